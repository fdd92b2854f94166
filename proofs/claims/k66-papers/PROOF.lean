import PyProof.Rows.All
import Wide.All
import OpenK.AllK
import Wide.FinOn
import KE.KStateDown
import Lean
import HandS.ForMost
import HandS.Exc
import HandS.TryOnly
import HandS.TryMany
import HandS.ExcOwn
import HandS.WordsExc
import HandS.Zip
import HandS.Defaults
import HandS.HeadHook1
import HandS.HeadHook2
import KE.SortData
import KE.DataEq
import KE.KDictKeyed
import KE.KDictCopyH
import HandS.TupAny
import HandS.Style
import HandS.RevTup
import HandS.Text
import HandS.TupLen
import HandS.IsInst
import KE.KDictSum
import HandS.ExcIs
import KE.GoesEnum
import KE.GoesZip
import KE.GoesMore
import HandS.Deep
import KE.DataFind
import HandS.Conv
import HandS.HeadEnd
import HandS.Head0
import HandS.Head1
import HandS.Head2
import PySem.Challenge.RW_coverwright_k66_whole_domino_papers
section
set_option linter.all false
set_option autoImplicit false
/-! Pd.Core: values, a small language, its evaluator. Plain Lean. -/
namespace Pd

/-! ### values -/
inductive D where
  | non
  | bl (b : Bool)
  | int (i : Int)
  | str (s : List Nat)
  | tup (xs : List D)
  | lst (xs : List D)
  | dct (ks vs : List D)
  | ins (c : Nat) (ns : List Nat) (vs : List D)
  | scr (xs : List Int)
deriving Inhabited

/-- what a variable or a field may own -/
inductive OV where
  | fz (d : D)
  | lst (xs : List D)
  | dct (ks vs : List D)
  | dcl (ks : List D) (vs : List (List D))
deriving Inhabited
inductive SV where
  | o (x : OV)
  | ins (c : Nat) (ns : List Nat) (fs : List OV)
deriving Inhabited
abbrev fz (d : D) : SV := .o (.fz d)
abbrev oL (xs : List D) : SV := .o (.lst xs)
def OV.view : OV → D
  | .fz d => d
  | .lst xs => .lst xs
  | .dct ks vs => .dct ks vs
  | .dcl ks vs => .dct ks (vs.map .lst)
def SV.view : SV → D
  | .o x => x.view
  | .ins c ns fs => .ins c ns (fs.map OV.view)

inductive R (α : Type) where
  | ok (a : α)
  | exc (c : Nat)
  | bad
deriving Inhabited
namespace R
def bind {α β : Type} : R α → (α → R β) → R β
  | .ok a, f => f a
  | .exc c, _ => .exc c
  | .bad, _ => .bad
instance : Monad R where
  pure := .ok
  bind := bind
@[simp] theorem ok_bind {α β : Type} (a : α) (f : α → R β) : (R.ok a >>= f) = f a := rfl
@[simp] theorem exc_bind {α β : Type} (c : Nat) (f : α → R β) : ((R.exc c : R α) >>= f) = .exc c := rfl
@[simp] theorem bad_bind {α β : Type} (f : α → R β) : ((R.bad : R α) >>= f) = .bad := rfl
@[simp] theorem pure_eq {α : Type} (a : α) : (pure a : R α) = .ok a := rfl
def of {α : Type} : Option α → R α
  | some a => .ok a
  | none => .bad
@[simp] theorem of_some {α : Type} (a : α) : R.of (some a) = .ok a := rfl
@[simp] theorem of_none {α : Type} : R.of (none : Option α) = .bad := rfl
end R
inductive RC where
  | ok (v : SV) (io : List SV)
  | exc (c : Nat) (io : List SV)
  | bad
deriving Inhabited

abbrev Env := List (Option SV)
def lim : Nat := 16777216

/-! ### equality and order -/
mutual
def eqD : D → D → Bool
  | .non, .non => true
  | .bl a, .bl b => a == b
  | .bl a, .int j => (if a then 1 else 0) == j
  | .int i, .bl b => i == (if b then 1 else 0)
  | .int i, .int j => i == j
  | .str x, .str y => x == y
  | .lst xs, .lst ys => eqDs xs ys
  | .tup xs, .tup ys => eqDs xs ys
  | _, _ => false
def eqDs : List D → List D → Bool
  | [], [] => true
  | x :: xs, y :: ys => eqD x y && eqDs xs ys
  | _, _ => false
end
mutual
/-- no dict, no instance within; at most n deep -/
def plain : Nat → D → Bool
  | _, .non => true
  | _, .bl _ => true
  | _, .int _ => true
  | _, .str _ => true
  | n, .lst xs => (match n with | 0 => false | n + 1 => plains n xs)
  | n, .tup xs => (match n with | 0 => false | n + 1 => plains n xs)
  | _, _ => false
def plains : Nat → List D → Bool
  | _, [] => true
  | n, x :: xs => plain n x && plains n xs
end
mutual
/-- of one kind, place by place -/
def alk : D → D → Bool
  | .non, .non => true
  | .bl _, .bl _ => true
  | .int _, .int _ => true
  | .str _, .str _ => true
  | .lst xs, .lst ys => alks xs ys
  | .tup xs, .tup ys => alks xs ys
  | _, _ => false
def alks : List D → List D → Bool
  | x :: xs, y :: ys => alk x y && alks xs ys
  | _, _ => true
end
mutual
/-- a < b, of alike values -/
def ltD : D → D → Bool
  | .bl a, .bl b => !a && b
  | .int i, .int j => decide (i < j)
  | .str x, .str y => decide (x < y)
  | .lst xs, .lst ys => ltDs xs ys
  | .tup xs, .tup ys => ltDs xs ys
  | _, _ => false
def ltDs : List D → List D → Bool
  | [], _ :: _ => true
  | x :: xs, y :: ys => if eqD x y then ltDs xs ys else ltD x y
  | _, _ => false
end
def leD (x y : D) : Bool := !ltD y x
def isTup1 : D → Bool
  | .tup (_ :: _) => true
  | _ => false
def notTup : D → Bool
  | .tup _ => false
  | .non => false
  | _ => true
def allAlk (xs : List D) : Bool := xs.all fun x => xs.all fun y => alk x y
def sortOk (xs : List D) : Bool := allAlk xs && (xs.all isTup1 || xs.all notTup) && xs.all (plain 60)
def insD (x : D) : List D → List D
  | [] => [x]
  | y :: ys => if leD x y then x :: y :: ys else y :: insD x ys
def sortD : List D → List D
  | [] => []
  | x :: xs => insD x (sortD xs)

/-! ### dicts: keys -/
def leafK : D → Bool
  | .int _ => true
  | .str _ => true
  | _ => false
mutual
def tupK : Nat → D → Bool
  | _, .non => true
  | _, .bl _ => true
  | _, .int _ => true
  | _, .str _ => true
  | n, .tup xs => (match n with | 0 => false | n + 1 => tupKs n xs)
  | _, _ => false
def tupKs : Nat → List D → Bool
  | _, [] => true
  | n, x :: xs => tupK n x && tupKs n xs
end
/-- a tuple that may be a key -/
def isKT : D → Bool
  | .tup xs => tupKs 7 xs
  | _ => false
/-- k may be looked up among these keys -/
def keyOk (ks : List D) (k : D) : Bool := (leafK k && ks.all leafK) || (isKT k && ks.all isKT)
def posK (k : D) : List D → Option Nat
  | [] => none
  | x :: xs => if eqD x k then some 0 else (posK k xs).map (· + 1)
def getK {α : Type} (k : D) : List D → List α → Option α
  | x :: xs, v :: vs => if eqD x k then some v else getK k xs vs
  | _, _ => none
def hasK (k : D) : List D → Bool
  | [] => false
  | x :: xs => eqD x k || hasK k xs
def setK {α : Type} (k : D) (v : α) : List D → List α → List α
  | x :: xs, u :: us => if eqD x k then v :: us else u :: setK k v xs us
  | _, us => us
/-- store: the keys and values behind d[k] = v -/
def putKs (k : D) (ks : List D) : List D := if hasK k ks then ks else ks ++ [k]
def putVs {α : Type} (k : D) (v : α) (ks : List D) (vs : List α) : List α := if hasK k ks then setK k v ks vs else vs ++ [v]
def dropKs (k : D) : List D → List D
  | [] => []
  | x :: xs => if eqD x k then xs else x :: dropKs k xs
def dropVs {α : Type} (k : D) : List D → List α → List α
  | x :: xs, v :: vs => if eqD x k then vs else v :: dropVs k xs vs
  | _, vs => vs

/-! ### the language -/
inductive Bop where
  | add | sub | mul | fdiv | mod | pow | band | bor
deriving DecidableEq
inductive Cop where
  | eq | ne | lt | le | gt | ge | is_ | isn | in_ | nin
deriving DecidableEq
inductive Ty where
  | int | bool | str | tuple | list | dict
deriving DecidableEq
inductive Bi where
  | len | list | tuple | sorted | all | any | int | abs | min | max | sum | str | repr | dict | isi (t : Ty) | lrng | trng
deriving DecidableEq
inductive Mt where
  | get | count | index | join | split | items
deriving DecidableEq
inductive Tg where
  | nm (i : Nat)
  | tu (ts : List Tg)
mutual
inductive E where
  | lit (d : D)
  | var (i : Nat)
  | tup (es : List E)
  | lst (es : List E)
  | dnew
  | bin (o : Bop) (a b : E)
  | neg (a : E)
  | cmp (o : Cop) (a b : E)
  | chain (o p : Cop) (a b c : E)
  | and (a b : E)
  | or (a b : E)
  | not (a : E)
  | ite (c a b : E)
  | att (e : E) (f : Nat)
  | idx (e i : E)
  | slc (e : E) (lo hi : Option E)
  | rev (e : E)
  | bi (b : Bi) (es : List E)
  | mt (m : Mt) (e : E) (es : List E)
  | call (f : Nat) (es : List E)
  | meth (c f : Nat) (e : E) (es : List E)
  | mk (c f : Nat) (es : List E)
  | comp (elt : E) (tg : Tg) (it : It) (ifs : List E) (own : List Nat)
  | comp2 (elt : E) (tg : Tg) (it : It) (tg2 : Tg) (it2 : It) (own own2 : List Nat)
inductive It where
  | seq (e : E)
  | rng (es : List E)
  | enm (e : E)
  | zip (a b : E)
end
inductive Pth where
  | v (i : Nat)
  | a (i f : Nat)
inductive T where
  | nm (i : Nat)
  | tu (ts : List T)
  | sub (p : Pth) (k : E)
  | att (i f : Nat)
inductive S where
  | frz (is : List Nat)
  | ex (e : E)
  | asg (t : T) (e : E)
  | par (is : List Nat) (es : List E)
  | parz (ts : List T) (es : List E)
  | aug (i : Nat) (o : Bop) (e : E)
  | augs (p : Pth) (k : E) (o : Bop) (e : E)
  | app (p : Pth) (e : E)
  | ext (p : Pth) (e : E)
  | pop (t : T) (p : Pth)
  | popx (p : Pth)
  | sda (p : Pth) (k e : E)
  | if_ (c : E) (a b : List S)
  | for_ (tg : Tg) (it : It) (b : List S)
  | whl (fs : List Nat) (c : E) (b : List S)
  | ret (e : E)
  | retv (i : Nat)
  | retn
  | brk
  | cnt
  | pas
  | rse (c : Nat)
  | try_ (b : List S) (hs : List (List Nat × List S))

/-! ### operations -/
def small64 (i : Int) : Bool := decide (-(2 ^ 64) < i ∧ i < 2 ^ 64)
def mkL (xs : List D) : Option SV := if xs.length ≤ lim then some (oL xs) else none
def mkT (xs : List D) : Option SV := if xs.length ≤ lim then some (fz (.tup xs)) else none
def mkS (x : List Nat) : Option SV := if x.length ≤ lim then some (fz (.str x)) else none
/-- a frozen value -/
def SV.fz? : SV → Option D
  | .o (.fz d) => some d
  | _ => none
/-- the items of a list -/
def SV.list? : SV → Option (List D)
  | .o (.fz (.lst xs)) => some xs
  | .o (.lst xs) => some xs
  | _ => none
/-- the items of a list or a tuple -/
def SV.seq? : SV → Option (List D)
  | .o (.fz (.lst xs)) => some xs
  | .o (.lst xs) => some xs
  | .o (.fz (.tup xs)) => some xs
  | _ => none
def binI (o : Bop) (i j : Int) : Option SV := match o with
  | .add => some (fz (.int (i + j)))
  | .sub => some (fz (.int (i - j)))
  | .mul => if small64 i || small64 j then some (fz (.int (i * j))) else none
  | .fdiv => if 0 < j ∧ j < 1073741824 then some (fz (.int (i / j))) else none
  | .mod => if 0 < j then some (fz (.int (i % j))) else none
  | .pow => if 0 ≤ j ∧ j ≤ 1000000 ∧ i.natAbs < 2 ^ 64 then some (fz (.int (i ^ j.toNat))) else none
  | .band => none
  | .bor => none
def catL : Option (List D) → Option (List D) → Option SV
  | some xs, some ys => mkL (xs ++ ys)
  | _, _ => none
def binL (o : Bop) (a b : SV) : Option SV := if o = .add then catL a.list? b.list? else none
def binS (o : Bop) : SV → SV → Option SV
  | .o (.fz (.int i)), .o (.fz (.int j)) => binI o i j
  | .o (.fz (.str x)), .o (.fz (.str y)) => if o = .add then mkS (x ++ y) else none
  | .o (.fz (.tup xs)), .o (.fz (.tup ys)) => if o = .add then mkT (xs ++ ys) else none
  | a, b => binL o a b
def inList (x : D) (ys : List D) : Bool := ys.any fun y => eqD y x
def cmpI (o : Cop) (i j : Int) : Option Bool := match o with
  | .eq => some (i == j)
  | .ne => some (!(i == j))
  | .lt => some (decide (i < j))
  | .le => some (decide (i ≤ j))
  | .gt => some (decide (j < i))
  | .ge => some (decide (j ≤ i))
  | _ => none
/-- an order or equality of two values -/
def cmpV (o : Cop) (x y : D) : Option Bool := match o with
  | .eq => if plain 60 x && plain 60 y then some (eqD x y) else none
  | .ne => if plain 60 x && plain 60 y then some (!eqD x y) else none
  | .lt => if alk x y && plain 60 x && plain 60 y && isTup1 x && isTup1 y then some (ltD x y) else none
  | .is_ => (match y with | .non => some (match x with | .non => true | _ => false) | _ => none)
  | .isn => (match y with | .non => some (match x with | .non => false | _ => true) | _ => none)
  | _ => none
def cmpD (o : Cop) (x y : D) : Option Bool := match x, y with
  | .int i, .int j => (match o with | .is_ => none | .isn => none | .in_ => none | .nin => none | _ => cmpI o i j)
  | _, _ => cmpV o x y
/-- x in y -/
def inS (x : D) : SV → Option Bool
  | .o (.fz (.lst ys)) => if plain 60 x && plains 60 ys then some (inList x ys) else none
  | .o (.lst ys) => if plain 60 x && plains 60 ys then some (inList x ys) else none
  | .o (.fz (.tup ys)) => if plain 60 x && plains 60 ys then some (inList x ys) else none
  | .o (.fz (.dct ks _)) => if keyOk ks x then some (hasK x ks) else none
  | .o (.dct ks _) => if keyOk ks x then some (hasK x ks) else none
  | .o (.dcl ks _) => if keyOk ks x then some (hasK x ks) else none
  | .o (.fz (.str s)) => (match x with | .str [c] => some (s.contains c) | _ => none)
  | _ => none
def cmpS (o : Cop) (a b : SV) : Option Bool := match o with
  | .in_ => (match a.fz? with | some x => inS x b | none => none)
  | .nin => (match a.fz? with | some x => (inS x b).map (!·) | none => none)
  | _ => cmpD o a.view b.view
def atI {α : Type} (xs : List α) (i : Int) : Option α :=
  if 0 ≤ i then xs[i.toNat]? else if -(xs.length : Int) ≤ i then xs[(i + xs.length).toNat]? else none
def idxS (a : SV) (i : D) : Option SV := match a with
  | .o (.fz (.lst xs)) => (match i with | .int k => (match atI xs k with | some d => some (fz d) | none => none) | _ => none)
  | .o (.lst xs) => (match i with | .int k => (match atI xs k with | some d => some (fz d) | none => none) | _ => none)
  | .o (.fz (.tup xs)) => (match i with | .int k => (match atI xs k with | some d => some (fz d) | none => none) | _ => none)
  | .o (.fz (.str s)) => (match i with | .int k => (match atI s k with | some c => some (fz (.str [c])) | none => none) | _ => none)
  | .o (.fz (.dct ks vs)) => if keyOk ks i then (match getK i ks vs with | some d => some (fz d) | none => none) else none
  | .o (.dct ks vs) => if keyOk ks i then (match getK i ks vs with | some d => some (fz d) | none => none) else none
  | .o (.dcl ks vs) => if keyOk ks i then (match getK i ks vs with | some xs => some (oL xs) | none => none) else none
  | _ => none
def lookF {α : Type} (f : Nat) : List Nat → List α → Option α
  | n :: ns, v :: vs => if n = f then some v else lookF f ns vs
  | _, _ => none
def attS (a : SV) (f : Nat) : Option SV := match a with
  | .ins _ ns fs => (match lookF f ns fs with | some x => some (.o x) | none => none)
  | .o (.fz (.ins _ ns vs)) => (match lookF f ns vs with | some d => some (fz d) | none => none)
  | _ => none
def sIx (n d : Nat) : Option Int → Nat
  | none => d
  | some v => if v < 0 then (v + n).toNat else min v.toNat n
def cut {α : Type} (xs : List α) (lo hi : Option Int) : List α := (xs.drop (sIx xs.length 0 lo)).take (sIx xs.length xs.length hi - sIx xs.length 0 lo)
def cutS (a : SV) (lo hi : Option Int) : Option SV := match a with
  | .o (.fz (.lst xs)) => some (oL (cut xs lo hi))
  | .o (.lst xs) => some (oL (cut xs lo hi))
  | .o (.fz (.tup xs)) => some (fz (.tup (cut xs lo hi)))
  | .o (.fz (.str s)) => some (fz (.str (cut s lo hi)))
  | .o (.fz (.scr xs)) => some (oL (cut (xs.map .int) lo hi))
  | _ => none
def revS (a : SV) : Option SV := match a with
  | .o (.fz (.lst xs)) => some (oL xs.reverse)
  | .o (.lst xs) => some (oL xs.reverse)
  | .o (.fz (.tup xs)) => some (fz (.tup xs.reverse))
  | _ => none
def rngD (lo : Int) (n : Nat) : List D := (List.range n).map fun (k : Nat) => .int (lo + k)
def okR (i : Int) : Bool := decide (-(2 ^ 62) ≤ i ∧ i < 2 ^ 62)
/-- the numbers of a range -/
def rngS : List D → Option (List D)
  | [.int j] => if okR j && decide (j ≤ lim) then some (rngD 0 j.toNat) else none
  | [.int i, .int j] => if okR i && okR j && decide (j - i ≤ lim) then some (rngD i (j - i).toNat) else none
  | [.int i, .int j, .int c] => if okR i && okR j && decide (c = -1) && decide (i - j ≤ lim) then some ((List.range (i - j).toNat).map fun (k : Nat) => .int (i - k)) else none
  | _ => none
def boolL : List D → Option (List Bool)
  | [] => some []
  | .bl b :: xs => (boolL xs).map (b :: ·)
  | _ => none
def intL : List D → Option (List Int)
  | [] => some []
  | .int i :: xs => (intL xs).map (i :: ·)
  | _ => none
def isTy : Ty → D → Bool
  | .int, .int _ => true
  | .int, .bl _ => true
  | .bool, .bl _ => true
  | .str, .str _ => true
  | .tuple, .tup _ => true
  | .list, .lst _ => true
  | .dict, .dct _ _ => true
  | _, _ => false
def isiOk : D → Bool
  | .dct _ _ => false
  | .ins _ _ _ => false
  | .scr _ => false
  | _ => true
def maxI (i : Int) (is : List Int) : Int := is.foldl (fun a b => if b > a then b else a) i
def minI (i : Int) (is : List Int) : Int := is.foldl (fun a b => if b < a then b else a) i
def digits : Nat → Nat → List Nat → List Nat
  | 0, _, acc => acc
  | k + 1, n, acc => if n < 10 then (48 + n) :: acc else digits k (n / 10) ((48 + n % 10) :: acc)
def digitsN (n : Nat) : List Nat := digits 20 n []
/-- the keys of a dict -/
def SV.dict? : SV → Option (List D)
  | .o (.fz (.dct ks _)) => some ks
  | .o (.dct ks _) => some ks
  | .o (.dcl ks _) => some ks
  | _ => none
/-- the items of a list, a tuple, a dict -/
def SV.its? (a : SV) : Option (List D) := match a.dict? with
  | some ks => some ks
  | none => a.seq?
def SV.str? : SV → Option (List Nat)
  | .o (.fz (.str s)) => some s
  | _ => none
def lenS (a : SV) : Option SV := match a.str? with
  | some s => some (fz (.int s.length))
  | none => (match a.its? with | some xs => some (fz (.int xs.length)) | none => none)
def sortedS (a : SV) : Option SV := match a.its? with
  | some xs => if sortOk xs then some (oL (sortD xs)) else none
  | none => none
def bools? (a : SV) : Option (List Bool) := match a.list? with
  | some xs => boolL xs
  | none => none
def ints? (a : SV) : Option (List Int) := match a.list? with
  | some xs => intL xs
  | none => none
def intS : SV → Option SV
  | .o (.fz (.int i)) => some (fz (.int i))
  | .o (.fz (.bl c)) => some (fz (.int (if c then 1 else 0)))
  | _ => none
def absS : SV → Option SV
  | .o (.fz (.int i)) => some (fz (.int (if i < 0 then -i else i)))
  | _ => none
def isiS (t : Ty) : SV → Option SV
  | .o (.fz d) => if isiOk d then some (fz (.bl (isTy t d))) else none
  | _ => none
/-- a copy of a dict, keys whole numbers and texts -/
def dctS : SV → Option SV
  | .o (.fz (.dct ks ds)) => if ks.all leafK then some (.o (.dct ks ds)) else none
  | .o (.dct ks ds) => if ks.all leafK then some (.o (.dct ks ds)) else none
  | _ => none
def bi1 (b : Bi) (a : SV) : Option SV := match b with
  | .len => lenS a
  | .list => (match a.its? with | some xs => some (oL xs) | none => none)
  | .tuple => (match a.seq? with | some xs => some (fz (.tup xs)) | none => none)
  | .sorted => sortedS a
  | .all => (match bools? a with | some bs => some (fz (.bl (bs.all id))) | none => none)
  | .any => (match bools? a with | some bs => some (fz (.bl (bs.any id))) | none => none)
  | .int => intS a
  | .abs => absS a
  | .min => (match ints? a with | some (i :: is) => some (fz (.int (minI i is))) | _ => none)
  | .max => (match ints? a with | some (i :: is) => some (fz (.int (maxI i is))) | _ => none)
  | .sum => (match ints? a with | some is => some (fz (.int is.sum)) | _ => none)
  | .isi t => isiS t a
  | .dict => dctS a
  | _ => none
def bi2 (b : Bi) (x y : SV) : Option SV := match x, y with
  | .o (.fz (.int i)), .o (.fz (.int j)) => (match b with
    | .min => some (fz (.int (if j < i then j else i)))
    | .max => some (fz (.int (if j > i then j else i)))
    | _ => none)
  | _, _ => none
def biS (b : Bi) (as : List SV) : Option SV := match as with
  | [a] => bi1 b a
  | [x, y] => bi2 b x y
  | _ => none
def fresh : E → Bool
  | .var _ => false
  | .att _ _ => false
  | .idx _ _ => false
  | .ite _ a b => fresh a && fresh b
  | .and a b => fresh b
  | .or a b => fresh b
  | _ => true
/-- as a value that may be kept -/
def fr (e : E) : SV → Option D
  | .o (.fz d) => some d
  | s => if fresh e then some s.view else none
/-- kept, an instance of class c -/
def insOf (c : Nat) (e : E) (s : SV) : Option D := match fr e s with
  | some (.ins c' ns vs) => if c' = c then some (.ins c' ns vs) else none
  | _ => none
def setE (ρ : Env) (i : Nat) (s : SV) : Env := ρ.set i (some s)
def wipe (ρ : Env) : List Nat → Env
  | [] => ρ
  | v :: vs => (wipe ρ vs).set v none
mutual
def bindTg : Tg → D → Env → Option Env
  | .nm i, d, ρ => some (setE ρ i (fz d))
  | .tu ts, d, ρ => (match d with | .tup xs => bindTgs ts xs ρ | _ => none)
def bindTgs : List Tg → List D → Env → Option Env
  | [], [], ρ => some ρ
  | t :: ts, x :: xs, ρ => (match bindTg t x ρ with | some ρ' => bindTgs ts xs ρ' | none => none)
  | _, _, _ => none
end
def compL (f : D → R (Option D)) : List D → R (List D)
  | [] => .ok []
  | x :: xs => (match f x with
    | .ok none => compL f xs
    | .ok (some d) => (match compL f xs with | .ok ds => .ok (d :: ds) | _ => .bad)
    | _ => .bad)
def enumD : Nat → List D → List D
  | _, [] => []
  | n, x :: xs => .tup [.int n, x] :: enumD (n + 1) xs
def zipD : List D → List D → List D
  | x :: xs, y :: ys => .tup [x, y] :: zipD xs ys
  | _, _ => []
/-- two frozen tuples, two frozen lists, a frozen list and a frozen tuple, side by side -/
def zipS : SV → SV → Option (List D)
  | .o (.fz (.tup xs)), .o (.fz (.tup ys)) => some (zipD xs ys)
  | .o (.fz (.lst xs)), .o (.fz (.lst ys)) => some (zipD xs ys)
  | .o (.fz (.lst xs)), .o (.fz (.tup ys)) => some (zipD xs ys)
  | _, _ => none
/-- what a for walks -/
def seqS : SV → Option (List D)
  | .o (.fz (.lst xs)) => some xs
  | .o (.lst xs) => some xs
  | .o (.fz (.tup xs)) => some xs
  | .o (.fz (.str s)) => some (s.map fun c => .str [c])
  | _ => none
def boolS : SV → R Bool
  | .o (.fz (.bl c)) => .ok c
  | _ => .bad
abbrev Phi := Nat → List SV → RC
def callS (r : RC) : R SV := match r with
  | .ok v [] => .ok v
  | .exc c [] => .exc c
  | _ => .bad
def makeS (r : RC) : R SV := match r with
  | .ok (.o (.fz .non)) [s] => .ok s
  | .exc c _ => .exc c
  | _ => .bad
/-- a value that has the method -/
def mtOk (m : Mt) (a : SV) : Bool := match m with
  | .count => a.list?.isSome
  | .index => a.list?.isSome
  | _ => false
mutual
/-- no text within -/
def noS : D → Bool
  | .non => true
  | .bl _ => true
  | .int _ => true
  | .lst xs => noSs xs
  | .tup xs => noSs xs
  | _ => false
def noSs : List D → Bool
  | [] => true
  | x :: xs => noS x && noSs xs
end
def mtS (m : Mt) (a : SV) (ds : List D) : Option SV := match m, ds with
  | .count, [x] => (match a.list? with | some xs => if plain 60 a.view && plain 60 x then some (fz (.int (xs.countP fun y => eqD y x))) else none | none => none)
  | .index, [x] => (match a.list? with | some xs => if plain 60 a.view && plain 60 x && noS a.view && noS x then (match posK x xs with | some j => some (fz (.int j)) | none => none) else none | none => none)
  | .get, [k] => (match a with
    | .o (.fz (.dct ks vs)) => if keyOk ks k then some (fz ((getK k ks vs).getD .non)) else none
    | .o (.dct ks vs) => if keyOk ks k then some (fz ((getK k ks vs).getD .non)) else none
    | _ => none)
  | .get, [k, d] => (match a with
    | .o (.fz (.dct ks vs)) => if keyOk ks k then some (fz ((getK k ks vs).getD d)) else none
    | .o (.dct ks vs) => if keyOk ks k then some (fz ((getK k ks vs).getD d)) else none
    | _ => none)
  | _, _ => none

mutual
def ev (Φ : Phi) : E → Env → R SV
  | .lit d, _ => .ok (fz d)
  | .var i, ρ => (match ρ[i]? with | some (some s) => .ok s | _ => .bad)
  | .tup es, ρ => evs Φ es ρ >>= fun ds => R.of (mkT ds)
  | .lst es, ρ => evs Φ es ρ >>= fun ds => R.of (mkL ds)
  | .dnew, _ => .ok (.o (.dct [] []))
  | .bin o a b, ρ => do
    let x ← ev Φ a ρ
    let y ← ev Φ b ρ
    R.of (binS o x y)
  | .neg a, ρ => do
    let x ← ev Φ a ρ
    match x with
    | .o (.fz (.int i)) => .ok (fz (.int (-i)))
    | _ => .bad
  | .cmp o a b, ρ => do
    let x ← ev Φ a ρ
    let y ← ev Φ b ρ
    let c ← R.of (cmpS o x y)
    .ok (fz (.bl c))
  | .chain o p a b c, ρ => do
    let x ← ev Φ a ρ
    let y ← ev Φ b ρ
    let r ← R.of (cmpS o x y)
    if r then do
      let z ← ev Φ c ρ
      let q ← R.of (cmpS p y z)
      .ok (fz (.bl q))
    else .ok (fz (.bl false))
  | .and a b, ρ => do
    let x ← ev Φ a ρ
    let c ← boolS x
    if c then ev Φ b ρ else .ok (fz (.bl false))
  | .or a b, ρ => do
    let x ← ev Φ a ρ
    let c ← boolS x
    if c then .ok (fz (.bl true)) else ev Φ b ρ
  | .not a, ρ => do
    let x ← ev Φ a ρ
    let c ← boolS x
    .ok (fz (.bl (!c)))
  | .ite c a b, ρ => do
    let x ← ev Φ c ρ
    let t ← boolS x
    if t then ev Φ a ρ else ev Φ b ρ
  | .att e f, ρ => do
    let x ← ev Φ e ρ
    R.of (attS x f)
  | .idx e i, ρ => do
    let x ← ev Φ e ρ
    let y ← ev Φ i ρ
    let k ← R.of (fr i y)
    R.of (idxS x k)
  | .slc e lo hi, ρ => do
    let x ← ev Φ e ρ
    let l ← evo Φ lo ρ
    let h ← evo Φ hi ρ
    R.of (cutS x l h)
  | .rev e, ρ => do
    let x ← ev Φ e ρ
    R.of (revS x)
  | .bi b es, ρ => (match b with
    | .lrng => evs Φ es ρ >>= fun ds => R.of (rngS ds) >>= fun xs => .ok (oL xs)
    | .trng => evs Φ es ρ >>= fun ds => R.of (rngS ds) >>= fun xs => .ok (fz (.tup xs))
    | _ => evb Φ es ρ >>= fun ss => R.of (biS b ss))
  | .mt m e es, ρ => do
    let x ← ev Φ e ρ
    if mtOk m x then do
      let ds ← evs Φ es ρ
      R.of (mtS m x ds)
    else .bad
  | .call f es, ρ => do
    let ds ← evs Φ es ρ
    callS (Φ f (ds.map fz))
  | .meth c f e es, ρ => do
    let y ← ev Φ e ρ
    let x ← R.of (insOf c e y)
    let ds ← evs Φ es ρ
    callS (Φ f (fz x :: ds.map fz))
  | .mk c f es, ρ => do
    let ds ← evs Φ es ρ
    makeS (Φ f (.ins c [] [] :: ds.map fz))
  | .comp elt tg it ifs own, ρ => do
    let xs ← evi Φ it ρ
    let out ← compL (fun x => match bindTg tg x (wipe ρ own) with
      | none => .bad
      | some ρ' => (match evt Φ ifs ρ' with
        | .ok true => (match ev Φ elt ρ' with
          | .ok s => (match fr elt s with | some d => .ok (some d) | none => .bad)
          | _ => .bad)
        | .ok false => .ok none
        | _ => .bad)) xs
    .ok (oL out)
  | .comp2 elt tg it tg2 it2 own own2, ρ => .bad
/-- kept values, from the left -/
def evs (Φ : Phi) : List E → Env → R (List D)
  | [], _ => .ok []
  | e :: es, ρ => do
    let s ← ev Φ e ρ
    let d ← R.of (fr e s)
    let ds ← evs Φ es ρ
    .ok (d :: ds)
/-- looked at, from the left -/
def evb (Φ : Phi) : List E → Env → R (List SV)
  | [], _ => .ok []
  | e :: es, ρ => do
    let s ← ev Φ e ρ
    let ss ← evb Φ es ρ
    .ok (s :: ss)
def evo (Φ : Phi) : Option E → Env → R (Option Int)
  | none, _ => .ok none
  | some e, ρ => do
    let s ← ev Φ e ρ
    match s with
    | .o (.fz (.int i)) => .ok (some i)
    | _ => .bad
/-- a clause's tests -/
def evt (Φ : Phi) : List E → Env → R Bool
  | [], _ => .ok true
  | e :: _, ρ => do
    let s ← ev Φ e ρ
    boolS s
def evi (Φ : Phi) : It → Env → R (List D)
  | .seq e, ρ => do
    let s ← ev Φ e ρ
    R.of (seqS s)
  | .rng es, ρ => evs Φ es ρ >>= fun ds => R.of (rngS ds)
  | .enm e, ρ => do
    let s ← ev Φ e ρ
    match s.seq? with
    | some xs => .ok (enumD 0 xs)
    | none => .bad
  | .zip a b, ρ => do
    let s ← ev Φ a ρ
    let t ← ev Φ b ρ
    R.of (zipS s t)
end
end Pd

end
section
set_option linter.all false
set_option autoImplicit false
/-! Pd.Exec: statements, calls. Plain Lean. -/
namespace Pd

inductive Fl where
  | nx (ρ : Env)
  | bk (ρ : Env)
  | ct (ρ : Env)
  | rt (s : SV) (ρ : Env)
deriving Inhabited
inductive RS where
  | ok (f : Fl)
  | exc (c : Nat) (ρ : Env)
  | bad
deriving Inhabited
/-- an expression's outcome, then a statement's -/
def RS.of {α : Type} (ρ : Env) (r : R α) (f : α → RS) : RS := match r with
  | .ok a => f a
  | .exc c => .exc c ρ
  | .bad => .bad
@[simp] theorem RS.of_ok {α : Type} (ρ : Env) (a : α) (f : α → RS) : RS.of ρ (.ok a) f = f a := rfl
@[simp] theorem RS.of_exc {α : Type} (ρ : Env) (c : Nat) (f : α → RS) : RS.of ρ (.exc c) f = .exc c ρ := rfl
@[simp] theorem RS.of_bad {α : Type} (ρ : Env) (f : α → RS) : RS.of ρ .bad f = .bad := rfl
def RS.seq (r : RS) (f : Env → RS) : RS := match r with
  | .ok (.nx ρ) => f ρ
  | r => r
@[simp] theorem RS.seq_nx (ρ : Env) (f : Env → RS) : RS.seq (.ok (.nx ρ)) f = f ρ := rfl
@[simp] theorem RS.seq_bk (ρ : Env) (f : Env → RS) : RS.seq (.ok (.bk ρ)) f = .ok (.bk ρ) := rfl
@[simp] theorem RS.seq_ct (ρ : Env) (f : Env → RS) : RS.seq (.ok (.ct ρ)) f = .ok (.ct ρ) := rfl
@[simp] theorem RS.seq_rt (s : SV) (ρ : Env) (f : Env → RS) : RS.seq (.ok (.rt s ρ)) f = .ok (.rt s ρ) := rfl
@[simp] theorem RS.seq_exc (c : Nat) (ρ : Env) (f : Env → RS) : RS.seq (.exc c ρ) f = .exc c ρ := rfl
@[simp] theorem RS.seq_bad (f : Env → RS) : RS.seq .bad f = .bad := rfl

def getV (ρ : Env) (i : Nat) : Option SV := match ρ[i]? with
  | some (some s) => some s
  | _ => none
def setF {α : Type} (f : Nat) (x : α) : List Nat → List α → List α
  | n :: ns, v :: vs => if n = f then x :: vs else v :: setF f x ns vs
  | _, vs => vs
/-- what is owned at a path -/
def getP (p : Pth) (ρ : Env) : Option OV := match p with
  | .v i => (match getV ρ i with | some (.o x) => some x | _ => none)
  | .a i f => (match getV ρ i with | some (.ins _ ns fs) => lookF f ns fs | _ => none)
def setP (p : Pth) (x : OV) (ρ : Env) : Env := match p with
  | .v i => setE ρ i (.o x)
  | .a i f => (match getV ρ i with | some (.ins c ns fs) => setE ρ i (.ins c ns (setF f x ns fs)) | _ => ρ)
/-- as a value that a name may take over -/
def keepS (e : E) : SV → Option SV
  | .o (.fz d) => some (fz d)
  | s => if fresh e then some s else none
/-- o[i] = d at a path -/
def putP (p : Pth) (k d : D) (ρ : Env) : Option Env := match getP p ρ with
  | some (.lst xs) => (match k with
    | .int i => if 0 ≤ i then (if i < xs.length then some (setP p (.lst (xs.set i.toNat d)) ρ) else none) else if -(xs.length : Int) ≤ i then some (setP p (.lst (xs.set (i + xs.length).toNat d)) ρ) else none
    | _ => none)
  | some (.dct ks vs) => if keyOk ks k && decide (ks.length < lim) then some (setP p (.dct (putKs k ks) (putVs k d ks vs)) ρ) else none
  | _ => none
/-- an attribute is stored: is the value kept as one's own -/
def ownE : E → Bool
  | .lst [] => true
  | .dnew => true
  | _ => false
def attP (e : E) (i f : Nat) (s : SV) (ρ : Env) : Option Env := match getV ρ i with
  | some (.ins c ns fs) =>
    let x : OV := match s with
      | .o y => if ownE e then y else .fz y.view
      | s => .fz s.view
    if decide (ns.length < 900) && !ns.contains f then some (setE ρ i (.ins c (ns ++ [f]) (fs ++ [x]))) else none
  | _ => none
mutual
def asgT (Φ : Phi) (e : E) : T → SV → Env → R Env
  | .nm i, s, ρ => .ok (setE ρ i s)
  | .att i f, s, ρ => (match attP e i f s ρ with | some ρ' => .ok ρ' | none => .bad)
  | .sub p k, s, ρ => (match ev Φ k ρ with
    | .ok kv => (match fr k kv with
      | some kd => (match putP p kd s.view ρ with | some ρ' => .ok ρ' | none => .bad)
      | none => .bad)
    | _ => .bad)
  | .tu ts, s, ρ => (match s with
    | .o (.fz (.tup xs)) => asgTs Φ ts (xs.map fz) ρ
    | _ => .bad)
def asgTs (Φ : Phi) : List T → List SV → Env → R Env
  | [], [], ρ => .ok ρ
  | t :: ts, s :: ss, ρ => (match asgT Φ (.lit .non) t s ρ with
    | .ok ρ' => asgTs Φ ts ss ρ'
    | _ => .bad)
  | _, _, _ => .bad
end
/-- kept values with their owners, from the left -/
def evk (Φ : Phi) : List E → Env → R (List SV)
  | [], _ => .ok []
  | e :: es, ρ => do
    let s ← ev Φ e ρ
    let k ← R.of (keepS e s)
    let ss ← evk Φ es ρ
    .ok (k :: ss)
/-- what a for statement walks: nothing that is owned elsewhere -/
def evif (Φ : Phi) : It → Env → R (List D)
  | .seq e, ρ => do
    let s ← ev Φ e ρ
    let k ← R.of (keepS e s)
    R.of (seqS k)
  | .rng es, ρ => evs Φ es ρ >>= fun ds => R.of (rngS ds)
  | .enm e, ρ => do
    let s ← ev Φ e ρ
    let k ← R.of (keepS e s)
    match k.seq? with
    | some xs => .ok (enumD 0 xs)
    | none => .bad
  | .zip a b, ρ => do
    let s ← ev Φ a ρ
    let t ← ev Φ b ρ
    R.of (zipS s t)
def setEs : Env → List Nat → List SV → Env
  | ρ, i :: is, s :: ss => setEs (setE ρ i s) is ss
  | ρ, _, _ => ρ
def loopF (f : D → Env → RS) : List D → Env → RS
  | [], ρ => .ok (.nx ρ)
  | x :: xs, ρ => (match f x ρ with
    | .ok (.nx ρ') => loopF f xs ρ'
    | .ok (.ct ρ') => loopF f xs ρ'
    | .ok (.bk ρ') => .ok (.nx ρ')
    | r => r)
def loopW (c : Env → R Bool) (f : Env → RS) : Nat → Env → RS
  | 0, _ => .bad
  | n + 1, ρ => RS.of ρ (c ρ) fun b => if b then (match f ρ with
      | .ok (.nx ρ') => loopW c f n ρ'
      | .ok (.ct ρ') => loopW c f n ρ'
      | .ok (.bk ρ') => .ok (.nx ρ')
      | r => r) else .ok (.nx ρ)
def wfuel : Nat := 100000
def freezeV (ρ : Env) (i : Nat) : Env := match getV ρ i with
  | some s => setE ρ i (fz s.view)
  | none => ρ
def freeze (ρ : Env) (is : List Nat) : Env := is.foldl freezeV ρ
def evB (Φ : Phi) (c : E) (ρ : Env) : R Bool := do
  let s ← ev Φ c ρ
  boolS s

mutual
def ex (Φ : Phi) : S → Env → RS
  | .frz is, ρ => .ok (.nx (freeze ρ is))
  | .ex e, ρ => RS.of ρ (ev Φ e ρ) fun _ => .ok (.nx ρ)
  | .asg t e, ρ => RS.of ρ (ev Φ e ρ) fun s => RS.of ρ (R.of (keepS e s)) fun k => RS.of ρ (asgT Φ e t k ρ) fun ρ' => .ok (.nx ρ')
  | .par is es, ρ => RS.of ρ (evk Φ es ρ) fun ss => if is.length = ss.length then .ok (.nx (setEs ρ is ss)) else .bad
  | .parz ts es, ρ => RS.of ρ (evs Φ es ρ) fun ds => RS.of ρ (asgTs Φ ts (ds.map fz) ρ) fun ρ' => .ok (.nx ρ')
  | .aug i o e, ρ => RS.of ρ (ev Φ e ρ) fun y => (match getV ρ i with
    | some (.o (.fz x)) => RS.of ρ (R.of (binS o (fz x) y)) fun z => (match z with | .o (.fz d) => .ok (.nx (setE ρ i (fz d))) | _ => .bad)
    | _ => .bad)
  | .augs p k o e, ρ => .bad
  | .app p e, ρ => (match getP p ρ with
    | some (.lst xs) => RS.of ρ (ev Φ e ρ) fun s => RS.of ρ (R.of (fr e s)) fun d => if xs.length < lim then .ok (.nx (setP p (.lst (xs ++ [d])) ρ)) else .bad
    | _ => .bad)
  | .ext p e, ρ => (match getP p ρ with
    | some (.lst xs) => RS.of ρ (ev Φ e ρ) fun s => RS.of ρ (R.of s.list?) fun ys => if xs.length + ys.length ≤ lim then .ok (.nx (setP p (.lst (xs ++ ys)) ρ)) else .bad
    | _ => .bad)
  | .pop t p, ρ => (match getP p ρ with
    | some (.lst xs) => (match xs.getLast? with
      | some d => RS.of ρ (asgT Φ (.lit .non) t (fz d) (setP p (.lst xs.dropLast) ρ)) fun ρ' => .ok (.nx ρ')
      | none => .bad)
    | _ => .bad)
  | .popx p, ρ => (match getP p ρ with
    | some (.lst xs) => (match xs.getLast? with
      | some _ => .ok (.nx (setP p (.lst xs.dropLast) ρ))
      | none => .bad)
    | _ => .bad)
  | .sda p k e, ρ => .bad
  | .if_ c a b, ρ => RS.of ρ (evB Φ c ρ) fun t => if t then exs Φ a ρ else exs Φ b ρ
  | .for_ tg it b, ρ => RS.of ρ (evif Φ it ρ) fun xs => loopF (fun x ρ1 => match bindTg tg x ρ1 with
    | none => .bad
    | some ρ2 => exs Φ b ρ2) xs ρ
  | .whl fs c b, ρ => loopW (fun ρ1 => evB Φ c ρ1) (fun ρ1 => (exs Φ b ρ1)) wfuel ρ
  | .ret e, ρ => RS.of ρ (ev Φ e ρ) fun s => RS.of ρ (R.of (keepS e s)) fun k => .ok (.rt k ρ)
  | .retv i, ρ => (match getV ρ i with
    | some s => .ok (.rt s (ρ.set i none))
    | none => .bad)
  | .retn, ρ => .ok (.rt (fz .non) ρ)
  | .brk, ρ => .ok (.bk ρ)
  | .cnt, ρ => .ok (.ct ρ)
  | .pas, ρ => .ok (.nx ρ)
  | .rse c, ρ => .exc c ρ
  | .try_ b hs, ρ => (match exs Φ b ρ with
    | .exc c ρ' => exh Φ c ρ' hs
    | r => r)
def exs (Φ : Phi) : List S → Env → RS
  | [], ρ => .ok (.nx ρ)
  | s :: ss, ρ => RS.seq (ex Φ s ρ) fun ρ' => exs Φ ss ρ'
def exh (Φ : Phi) (c : Nat) (ρ : Env) : List (List Nat × List S) → RS
  | [] => .bad
  | (cs, b) :: hs => if cs.contains c then exs Φ b ρ else exh Φ c ρ hs
end

structure FnI where
  np : Nat
  nn : Nat
  io : List Nat
  body : List S
def iosOf (ρ : Env) : List Nat → Option (List SV)
  | [] => some []
  | i :: is => (match getV ρ i, iosOf ρ is with
    | some s, some ss => some (s :: ss)
    | _, _ => none)
def frozenS : SV → Bool
  | .o (.fz _) => true
  | _ => false
def argsOk (io : List Nat) (args : List SV) : Bool := (List.range args.length).all fun i => io.contains i || (args[i]?.map frozenS).getD false
def runFn (Φ : Phi) (f : FnI) (args : List SV) : RC :=
  if args.length = f.np ∧ argsOk f.io args = true then
    match exs Φ f.body (args.map some ++ List.replicate (f.nn - f.np) none) with
    | .ok (.nx ρ) => (match iosOf ρ f.io with | some ss => .ok (fz .non) ss | none => .bad)
    | .ok (.rt s ρ) => (match iosOf ρ f.io with | some ss => .ok s ss | none => .bad)
    | .exc c ρ => (match iosOf ρ f.io with | some ss => .exc c ss | none => .bad)
    | _ => .bad
  else .bad
def M (prog : List FnI) : Nat → Phi
  | 0 => fun _ _ => .bad
  | n + 1 => fun f args => match prog[f]? with
    | some fi => runFn (M prog n) fi args
    | none => .bad
end Pd

end
section
set_option linter.all false
set_option autoImplicit false
set_option Elab.async false
set_option maxRecDepth 100000
/-! Pd.Rel: what a value stands for on the abstract heap. -/
namespace Pd
open PySem PySem.Spec PyProof.Rows L2

/-! ### dicts as objects -/
/-- the entries' hashes, keys, values -/
abbrev Ent := Int × V × V
def DictAt (h : Heap) (a : Addr) (es : List Ent) : Prop :=
  es.length ≤ sizeLine ∧ (a == sysModules) = false ∧ ∃ (o : Obj) (ens : Array DictEntry) (ep : _), h.get? a = some o ∧ o.ExactDict ∧ o.data = .dict ens ep ∧
    Paired (fun (q : Ent) (e : DictEntry) => e.hash = q.1 ∧ RelV q.2.1 e.key ∧ RelV q.2.2 e.val) es ens.toList
abbrev dictHO (a : Addr) (es : List Ent) : HO := .ext fun h => DictAt h a es
theorem DictAt.stay {h h' : Heap} {a : Addr} {es : List Ent} (x : DictAt h a es) (k : ∀ o, h.get? a = some o → h'.get? a = some o) : DictAt h' a es := by
  obtain ⟨z, y, o, ens, ep, e, r⟩ := x
  exact ⟨z, y, o, ens, ep, k o e, r⟩
theorem DictAt.ok {P : Program} {w : World} {H : Hp} {h : Heap} {a : Addr} {es : List Ent} (x : DictAt h a es) : ObjOk P w H h a (dictHO a es) := by
  obtain ⟨z, y, o, ens, ep, e, r⟩ := id x
  exact ⟨x, ⟨o, e⟩, fun h1 h2 q k => q.stay k⟩

/-! ### the static side -/
structure FnS where
  at_ : Str × Option Str
  name : Str
  qual : Str
  args : Arguments
  ps : List Str
  N : List Str
  sc : Scope
  body : List Stmt
  fi : FnI
structure PrS where
  fns : List FnS
  cls : List Str
  flds : List Str
  excs : List Str
  cons : List (Str × D)
  bis : List Str
def PrS.fld (p : PrS) (f : Nat) : Str := p.flds.getD f ""
def PrS.clsN (p : PrS) (c : Nat) : Str := p.cls.getD c ""
def PrS.excN (p : PrS) (c : Nat) : Str := p.excs.getD c ""
/-- the world that a law runs in -/
structure G where
  P : Program
  w : World
  K : PySem.W.Frag
  mg : Str → Option Value
  base : Heap
  p : PrS
  fA : Nat → Addr
  fD : Nat → FuncData
def G.cA (g : G) (c : Nat) : Addr := He.ga g.K (g.p.clsN c)
def G.xA (g : G) (c : Nat) : Addr := He.ga g.K (g.p.excN c)

/-! ### frozen things -/
def strN (x : List Nat) : Str := ⟨x.toArray⟩
mutual
def nk : D → NestedKey
  | .non => .none
  | .bl b => .num (if b then 1 else 0)
  | .int i => .num i
  | .str x => .text (strN x)
  | .tup xs => .tup (nks xs)
  | _ => .none
def nks : List D → List NestedKey
  | [] => []
  | x :: xs => nk x :: nks xs
end
def keyAll (ks : List D) : Bool := ks.all leafK || ks.all isKT
mutual
inductive Rep (g : G) (F : Hp) : V → D → Prop
  | non : Rep g F .non .non
  | bl (b : Bool) : Rep g F (.bl b) (.bl b)
  | int (i : Int) : Rep g F (.int i) (.int i)
  | str (x : List Nat) : x.length ≤ sizeLine → Rep g F (.str (strN x)) (.str x)
  | tup {a : Addr} {vs : List V} {ds : List D} : SqT g.K F a vs → vs.length ≤ sizeLine → Reps g F vs ds → Rep g F (.ref a) (.tup ds)
  | lst {a : Addr} {vs : List V} {ds : List D} : F a = some (.lst vs) → vs.length ≤ sizeLine → Reps g F vs ds → Rep g F (.ref a) (.lst ds)
  | dct {a : Addr} {es : List Ent} {ks ds : List D} : F a = some (dictHO a es) → es.length ≤ sizeLine → Reps g F (es.map (·.2.1)) ks → Reps g F (es.map (·.2.2)) ds →
      es.map (·.1) = ks.map (fun k => (nk k).hash g.w) → keyAll ks = true → (nks ks).Nodup → Rep g F (.ref a) (.dct ks ds)
  | ins {a : Addr} {c : Nat} {dx : Addr} {gs : List (Str × V)} {ns : List Nat} {ds : List D} : F a = some (.ins (g.cA c) dx gs) → gs.map (·.1) = ns.map g.p.fld → gs.length ≤ 1000 → Reps g F (gs.map (·.2)) ds → c < g.p.cls.length → Rep g F (.ref a) (.ins c ns ds)
  | scr {a : Addr} {xs : List Int} : SqL g.K F a (xs.map V.int) → xs.length ≤ sizeLine → Rep g F (.ref a) (.scr xs)
inductive Reps (g : G) (F : Hp) : List V → List D → Prop
  | nil : Reps g F [] []
  | cons {v : V} {vs : List V} {d : D} {ds : List D} : Rep g F v d → Reps g F vs ds → Reps g F (v :: vs) (d :: ds)
end
section
variable {g : G} {F F' H H' : Hp}
mutual
theorem Rep.mono (s : Same F F') : ∀ {v : V} (d : D), Rep g F v d → Rep g F' v d
  | _, .non, h => by cases h; exact .non
  | _, .bl b, h => by cases h; exact .bl b
  | _, .int i, h => by cases h; exact .int i
  | _, .str x, h => by cases h with | str _ z => exact .str x z
  | _, .tup ds, h => by
    cases h with
    | tup h1 h2 h3 =>
      refine .tup ?_ h2 (Reps.mono s ds h3)
      rcases h1 with (h1 | ⟨o, h1⟩) | h1
      · exact .inl (.inl (s _ _ h1))
      · exact .inl (.inr ⟨o, s _ _ h1⟩)
      · exact .inr h1
  | _, .lst ds, h => by cases h with | lst h1 h2 h3 => exact .lst (s _ _ h1) h2 (Reps.mono s ds h3)
  | _, .dct ks ds, h => by cases h with | dct h1 h2 h3 h4 h5 h6 h7 => exact .dct (s _ _ h1) h2 (Reps.mono s ks h3) (Reps.mono s ds h4) h5 h6 h7
  | _, .ins c ns ds, h => by cases h with | ins h1 h2 h3 h4 h5 => exact .ins (s _ _ h1) h2 h3 (Reps.mono s ds h4) h5
  | _, .scr xs, h => by cases h with | scr h1 h2 => exact .scr (s.seq h1) h2
theorem Reps.mono (s : Same F F') : ∀ {vs : List V} (ds : List D), Reps g F vs ds → Reps g F' vs ds
  | _, [], h => by cases h; exact .nil
  | _, d :: ds, h => by cases h with | cons h1 h2 => exact .cons (Rep.mono s d h1) (Reps.mono s ds h2)
end
theorem Reps.length : ∀ {vs : List V} {ds : List D}, Reps g F vs ds → vs.length = ds.length
  | _, _, .nil => rfl
  | _, _, .cons _ t => congrArg (· + 1) (Reps.length t)
theorem Reps.get : ∀ {vs : List V} {ds : List D} {i : Nat} {d : D}, Reps g F vs ds → ds[i]? = some d → ∃ v, vs[i]? = some v ∧ Rep g F v d
  | _, _, _, _, .nil, e => by simp at e
  | _, _, 0, _, .cons r _, e => by simp at e; subst e; exact ⟨_, rfl, r⟩
  | _, _, i + 1, _, .cons _ t, e => by
    obtain ⟨v, h1, h2⟩ := Reps.get (i := i) t (by simpa using e)
    exact ⟨v, by simpa using h1, h2⟩
theorem Reps.get' : ∀ {vs : List V} {ds : List D} {i : Nat} {v : V}, Reps g F vs ds → vs[i]? = some v → ∃ d, ds[i]? = some d ∧ Rep g F v d
  | _, _, _, _, .nil, e => by simp at e
  | _, _, 0, _, .cons r _, e => by simp at e; subst e; exact ⟨_, rfl, r⟩
  | _, _, i + 1, _, .cons _ t, e => by
    obtain ⟨d, h1, h2⟩ := Reps.get' (i := i) t (by simpa using e)
    exact ⟨d, by simpa using h1, h2⟩
theorem Reps.append : ∀ {vs ws : List V} {ds es : List D}, Reps g F vs ds → Reps g F ws es → Reps g F (vs ++ ws) (ds ++ es)
  | _, _, _, _, .nil, s => s
  | _, _, _, _, .cons r t, s => .cons r (Reps.append t s)
theorem Reps.take : ∀ {vs : List V} {ds : List D} (n : Nat), Reps g F vs ds → Reps g F (vs.take n) (ds.take n)
  | _, _, 0, _ => .nil
  | _, _, _ + 1, .nil => .nil
  | _, _, n + 1, .cons r t => .cons r (Reps.take n t)
theorem Reps.drop : ∀ {vs : List V} {ds : List D} (n : Nat), Reps g F vs ds → Reps g F (vs.drop n) (ds.drop n)
  | _, _, 0, r => r
  | _, _, _ + 1, .nil => .nil
  | _, _, n + 1, .cons _ t => Reps.drop n t
theorem Reps.reverse {vs : List V} {ds : List D} (h : Reps g F vs ds) : Reps g F vs.reverse ds.reverse := by
  induction h using Reps.rec (motive_1 := fun _ _ _ => True) with
  | nil => exact .nil
  | cons r t ih1 ih => simp only [List.reverse_cons]; exact ih.append (.cons r .nil)
  | _ => trivial
theorem Reps.set : ∀ {vs : List V} {ds : List D} (i : Nat) {v : V} {d : D}, Reps g F vs ds → Rep g F v d → Reps g F (vs.set i v) (ds.set i d)
  | _, _, _, _, _, .nil, _ => .nil
  | _, _, 0, _, _, .cons _ t, r => .cons r t
  | _, _, i + 1, _, _, .cons q t, r => .cons q (Reps.set i t r)
theorem Reps.dropLast : ∀ {vs : List V} {ds : List D}, Reps g F vs ds → Reps g F vs.dropLast ds.dropLast
  | _, _, h => by
    rw [List.dropLast_eq_take, List.dropLast_eq_take, h.length]
    exact h.take _
theorem Reps.of_list : ∀ {vs : List V} {ds : List D}, vs.length = ds.length → (∀ (i : Nat) (v : V) (d : D), vs[i]? = some v → ds[i]? = some d → Rep g F v d) → Reps g F vs ds
  | [], [], _, _ => .nil
  | [], _ :: _, e, _ => by simp at e
  | _ :: _, [], e, _ => by simp at e
  | v :: vs, d :: ds, e, h => .cons (h 0 v d rfl rfl) (Reps.of_list (by simpa using e) fun i v d h1 h2 => h (i + 1) v d (by simpa using h1) (by simpa using h2))
end

/-! ### the frozen part and the heap -/
def isDk : HO → Prop
  | .ext _ => True
  | _ => False
/-- all that is frozen stands (a dict may be locked) -/
def Sub (F H : Hp) : Prop := ∀ a u, F a = some u → H a = some u ∨ (isDk u ∧ ∃ o, H a = some (.frz o u))
/-- new things alone -/
structure Grow (F H F' H' : Hp) : Prop where
  sub : Sub F' H'
  keep : ∀ a o, H a = some o → H' a = some o ∧ F' a = F a
section
variable {g : G} {F F' F'' H H' H'' : Hp} {a : Addr} {o : HO}
theorem Sub.some (s : Sub F H) {u : HO} (e : F a = .some u) : ∃ o, H a = .some o := by
  rcases s a u e with h | ⟨_, o, h⟩
  · exact ⟨_, h⟩
  · exact ⟨_, h⟩
theorem Sub.none (s : Sub F H) (e : H a = .none) : F a = .none := by
  cases q : F a with
  | none => rfl
  | some u =>
    obtain ⟨o, h⟩ := s.some q
    rw [e] at h; cases h
theorem Sub.lst (s : Sub F H) {vs : List V} (e : F a = .some (.lst vs)) : H a = .some (.lst vs) := by
  rcases s a _ e with h | ⟨h, _⟩
  · exact h
  · exact h.elim
theorem Sub.ins (s : Sub F H) {C dx : Addr} {gs : List (Str × V)} (e : F a = .some (.ins C dx gs)) : H a = .some (.ins C dx gs) := by
  rcases s a _ e with h | ⟨h, _⟩
  · exact h
  · exact h.elim
theorem Sub.rd (s : Sub F H) {u : HO} (e : F a = .some u) : Rd H a u := by
  rcases s a u e with h | ⟨_, o, h⟩
  · exact .inl h
  · exact .inr ⟨o, h⟩
theorem Sub.rd' (s : Sub F H) {u : HO} (e : Rd F a u) (n : ¬ isDk u) : Rd H a u := by
  rcases e with e | ⟨o, e⟩
  · exact s.rd e
  · rcases s a _ e with h | ⟨h, _⟩
    · exact .inr ⟨o, h⟩
    · exact h.elim
theorem Sub.sqT (s : Sub F H) {vs : List V} (e : SqT g.K F a vs) : SqT g.K H a vs := by
  rcases e with e | e
  · exact .inl (s.rd' e fun z => z)
  · exact .inr e
theorem Sub.sqL (s : Sub F H) {vs : List V} (e : SqL g.K F a vs) : SqL g.K H a vs := by
  rcases e with e | e
  · exact .inl (s.rd' e fun z => z)
  · exact .inr e
theorem Grow.refl (s : Sub F H) : Grow F H F H := ⟨s, fun _ _ h => ⟨h, rfl⟩⟩
theorem Grow.same (x : Grow F H F' H') (s : Sub F H) : Same F F' := fun a u e => by
  obtain ⟨o, h⟩ := s.some e
  rw [(x.keep a o h).2]; exact e
theorem Grow.sameH (x : Grow F H F' H') : Same H H' := fun a u e => (x.keep a u e).1
theorem Grow.trans (x : Grow F H F' H') (y : Grow F' H' F'' H'') : Grow F H F'' H'' := ⟨y.sub, fun a o h => by
  obtain ⟨h1, e1⟩ := x.keep a o h
  obtain ⟨h2, e2⟩ := y.keep a o h1
  exact ⟨h2, e2.trans e1⟩⟩
theorem Grow.none (x : Grow F H F' H') (e : H' a = .none) : H a = .none := by
  cases q : H a with
  | none => rfl
  | some o => rw [(x.keep a o q).1] at e; cases e
/-- a new object, kept apart -/
theorem Grow.own (s : Sub F H) (n : H a = .none) : Grow F H F (upd H a o) := ⟨fun b u e => by
  have hb : b ≠ a := fun z => by rw [z, s.none n] at e; cases e
  rw [upd_ne hb]; exact s b u e, fun b u e => ⟨by rw [upd_ne (ne_of_none e n)]; exact e, rfl⟩⟩
/-- a new object, frozen -/
theorem Grow.new (s : Sub F H) (n : H a = .none) : Grow F H (upd F a o) (upd H a o) := ⟨fun b u e => by
  by_cases hb : b = a
  · subst hb
    rw [upd_same] at e ⊢
    exact .inl e
  · rw [upd_ne hb] at e ⊢
    exact s b u e, fun b u e => ⟨by rw [upd_ne (ne_of_none e n)]; exact e, upd_ne (ne_of_none e n)⟩⟩
/-- own objects that are new are frozen later -/
theorem Grow.frz {as : List Addr} (x : Grow F H F' H') (hn : ∀ a ∈ as, H a = .none) (hl : ∀ a ∈ as, ∀ u, H' a = .some u → ∀ o v, u = .frz o v → False) : Grow F H (fun a => if a ∈ as then H' a else F' a) H' := ⟨fun b u e => by
  by_cases hb : b ∈ as
  · simp only [hb, if_true] at e
    exact .inl e
  · simp only [hb, if_false] at e
    exact x.sub b u e, fun b u e => by
  obtain ⟨h1, h2⟩ := x.keep b u e
  refine ⟨h1, ?_⟩
  have hb : b ∉ as := fun z => by rw [hn b z] at e; cases e
  simp only [hb, if_false]
  exact h2⟩
end

/-! ### owned things -/
def OwnO (g : G) (F H : Hp) (v : V) : OV → List Addr → Prop
  | .fz d, fp => fp = [] ∧ Rep g F v d
  | .lst xs, fp => ∃ a vs, v = .ref a ∧ fp = [a] ∧ H a = some (.lst vs) ∧ vs.length ≤ sizeLine ∧ Reps g F vs xs
  | .dct ks ds, fp => ∃ a es, v = .ref a ∧ fp = [a] ∧ H a = some (dictHO a es) ∧ es.length ≤ sizeLine ∧ Reps g F (es.map (·.2.1)) ks ∧ Reps g F (es.map (·.2.2)) ds ∧ es.map (·.1) = ks.map (fun k => (nk k).hash g.w) ∧ keyAll ks = true ∧ (nks ks).Nodup
  | .dcl ks dss, fp => ∃ a es as, v = .ref a ∧ fp = a :: as ∧ H a = some (dictHO a es) ∧ es.length ≤ sizeLine ∧ Reps g F (es.map (·.2.1)) ks ∧ es.map (·.2.2) = as.map V.ref ∧
      Paired (fun (b : Addr) (xs : List D) => ∃ vs, H b = some (.lst vs) ∧ vs.length ≤ sizeLine ∧ Reps g F vs xs) as dss ∧ es.map (·.1) = ks.map (fun k => (nk k).hash g.w) ∧ keyAll ks = true ∧ (nks ks).Nodup
inductive OwnOs (g : G) (F H : Hp) : List V → List OV → List (List Addr) → Prop
  | nil : OwnOs g F H [] [] []
  | cons {v : V} {vs : List V} {x : OV} {xs : List OV} {fp : List Addr} {fps : List (List Addr)} : OwnO g F H v x fp → OwnOs g F H vs xs fps → OwnOs g F H (v :: vs) (x :: xs) (fp :: fps)
def OwnS (g : G) (F H : Hp) (v : V) : SV → List Addr → Prop
  | .o x, fp => OwnO g F H v x fp
  | .ins c ns xs, fp => ∃ a dx gs fps, v = .ref a ∧ fp = a :: fps.flatten ∧ H a = some (.ins (g.cA c) dx gs) ∧ gs.map (·.1) = ns.map g.p.fld ∧ gs.length ≤ 1000 ∧ OwnOs g F H (gs.map (·.2)) xs fps ∧ c < g.p.cls.length
section
variable {g : G} {F F' F'' H H' H'' : Hp} {a : Addr} {o : HO}
theorem OwnO.grow (s : Sub F H) (x : Grow F H F' H') {v : V} : ∀ {y : OV} {fp : List Addr}, OwnO g F H v y fp → OwnO g F' H' v y fp
  | .fz d, fp, h => ⟨h.1, Rep.mono (x.same s) d h.2⟩
  | .lst xs, fp, h => by
    obtain ⟨a, vs, e1, e2, e3, z, r⟩ := h
    exact ⟨a, vs, e1, e2, x.sameH _ _ e3, z, Reps.mono (x.same s) xs r⟩
  | .dct ks ds, fp, h => by
    obtain ⟨a, es, e1, e2, e3, z, r1, r2, r3⟩ := h
    exact ⟨a, es, e1, e2, x.sameH _ _ e3, z, Reps.mono (x.same s) ks r1, Reps.mono (x.same s) ds r2, r3⟩
  | .dcl ks dss, fp, h => by
    obtain ⟨a, es, as, e1, e2, e3, z, r1, r2, r3, r4⟩ := h
    exact ⟨a, es, as, e1, e2, x.sameH _ _ e3, z, Reps.mono (x.same s) ks r1, r2, Paired.mapP r3 (fun b xs ⟨vs, q1, q2, q3⟩ => ⟨vs, x.sameH _ _ q1, q2, Reps.mono (x.same s) xs q3⟩), r4⟩
theorem OwnOs.grow (s : Sub F H) (x : Grow F H F' H') : ∀ {vs : List V} {ys : List OV} {fps : List (List Addr)}, OwnOs g F H vs ys fps → OwnOs g F' H' vs ys fps
  | _, _, _, .nil => .nil
  | _, _, _, .cons h t => .cons (OwnO.grow s x h) (OwnOs.grow s x t)
theorem OwnS.grow (s : Sub F H) (x : Grow F H F' H') {v : V} : ∀ {y : SV} {fp : List Addr}, OwnS g F H v y fp → OwnS g F' H' v y fp
  | .o y, fp, h => OwnO.grow s x (y := y) h
  | .ins c ns xs, fp, h => by
    obtain ⟨a, dx, gs, fps, e1, e2, e3, r1, r2, r3, r4⟩ := h
    exact ⟨a, dx, gs, fps, e1, e2, x.sameH _ _ e3, r1, r2, r3.grow s x, r4⟩
theorem OwnO.fp_some {v : V} : ∀ {y : OV} {fp : List Addr}, OwnO g F H v y fp → ∀ a ∈ fp, ∃ o, H a = some o ∧ ∀ ob u, o ≠ .frz ob u
  | .fz d, fp, h, a, ha => by rw [h.1] at ha; cases ha
  | .lst xs, fp, h, a, ha => by
    obtain ⟨b, vs, e1, e2, e3, _⟩ := h
    rw [e2] at ha
    cases List.mem_singleton.mp ha
    exact ⟨_, e3, fun _ _ z => nomatch z⟩
  | .dct ks ds, fp, h, a, ha => by
    obtain ⟨b, es, e1, e2, e3, _⟩ := h
    rw [e2] at ha
    cases List.mem_singleton.mp ha
    exact ⟨_, e3, fun _ _ z => nomatch z⟩
  | .dcl ks dss, fp, h, a, ha => by
    obtain ⟨b, es, as, e1, e2, e3, _, _, _, r, _⟩ := h
    rw [e2] at ha
    rcases List.mem_cons.mp ha with rfl | ha
    · exact ⟨_, e3, fun _ _ z => nomatch z⟩
    · have : ∀ {as : List Addr} {dss : List (List D)}, Paired (fun (b : Addr) (xs : List D) => ∃ vs, H b = some (.lst vs) ∧ vs.length ≤ sizeLine ∧ Reps g F vs xs) as dss → ∀ a ∈ as, ∃ vs, H a = some (.lst vs) := by
        intro as dss r
        induction r with
        | nil => intro a h; cases h
        | cons q _ ih =>
          intro a h
          rcases List.mem_cons.mp h with rfl | h
          · exact ⟨_, q.choose_spec.1⟩
          · exact ih a h
      obtain ⟨vs, e⟩ := this r a ha
      exact ⟨_, e, fun _ _ z => nomatch z⟩
theorem OwnOs.fp_some : ∀ {vs : List V} {ys : List OV} {fps : List (List Addr)}, OwnOs g F H vs ys fps → ∀ a ∈ fps.flatten, ∃ o, H a = some o ∧ ∀ ob u, o ≠ .frz ob u
  | _, _, _, .nil, a, ha => by simp at ha
  | _, _, _, .cons h t, a, ha => by
    rw [List.flatten_cons, List.mem_append] at ha
    rcases ha with ha | ha
    · exact h.fp_some a ha
    · exact t.fp_some a ha
theorem OwnS.fp_some {v : V} : ∀ {y : SV} {fp : List Addr}, OwnS g F H v y fp → ∀ a ∈ fp, ∃ o, H a = some o ∧ ∀ ob u, o ≠ .frz ob u
  | .o y, fp, h, a, ha => OwnO.fp_some (y := y) h a ha
  | .ins c ns xs, fp, h, a, ha => by
    obtain ⟨b, dx, gs, fps, e1, e2, e3, r1, r2, r3, r4⟩ := h
    rw [e2] at ha
    rcases List.mem_cons.mp ha with rfl | ha
    · exact ⟨_, e3, fun _ _ z => nomatch z⟩
    · exact r3.fp_some a ha
/-- what is owned, once it is frozen at F' -/
theorem OwnO.frozen (sm : Same F F') {v : V} : ∀ {y : OV} {fp : List Addr}, OwnO g F H v y fp → (∀ a ∈ fp, F' a = H a) → Rep g F' v y.view
  | .fz d, fp, h, _ => Rep.mono sm d h.2
  | .lst xs, fp, h, k => by
    obtain ⟨b, vs, e1, e2, e3, z, r⟩ := h
    subst e1 e2
    exact .lst ((k b (List.mem_singleton.mpr rfl)).trans e3) z (Reps.mono sm xs r)
  | .dct ks ds, fp, h, k => by
    obtain ⟨b, es, e1, e2, e3, z, r1, r2, r3, r4, r5⟩ := h
    subst e1 e2
    exact .dct ((k b (List.mem_singleton.mpr rfl)).trans e3) z (Reps.mono sm ks r1) (Reps.mono sm ds r2) r3 r4 r5
  | .dcl ks dss, fp, h, k => by
    obtain ⟨b, es, as, e1, e2, e3, z, r1, r2, r3, r4, r5, r6⟩ := h
    subst e1 e2
    refine .dct ((k b List.mem_cons_self).trans e3) z (Reps.mono sm ks r1) ?_ r4 r5 r6
    rw [r2]
    have k' : ∀ a ∈ as, F' a = H a := fun a ha => k a (List.mem_cons_of_mem _ ha)
    clear r2 k e3
    induction r3 with
    | nil => exact .nil
    | cons q t ih =>
      obtain ⟨vs, q1, q2, q3⟩ := q
      exact .cons (.lst ((k' _ List.mem_cons_self).trans q1) q2 (Reps.mono sm _ q3)) (ih fun a ha => k' a (List.mem_cons_of_mem _ ha))
theorem OwnOs.frozen (sm : Same F F') : ∀ {vs : List V} {ys : List OV} {fps : List (List Addr)}, OwnOs g F H vs ys fps → (∀ a ∈ fps.flatten, F' a = H a) → Reps g F' vs (ys.map OV.view)
  | _, _, _, .nil, _ => .nil
  | _, _, _, .cons h t, k => .cons (h.frozen sm fun a ha => k a (by rw [List.flatten_cons]; exact List.mem_append_left _ ha)) (t.frozen sm fun a ha => k a (by rw [List.flatten_cons]; exact List.mem_append_right _ ha))
theorem OwnS.frozen (sm : Same F F') {v : V} : ∀ {y : SV} {fp : List Addr}, OwnS g F H v y fp → (∀ a ∈ fp, F' a = H a) → Rep g F' v y.view
  | .o y, fp, h, k => OwnO.frozen sm (y := y) h k
  | .ins c ns xs, fp, h, k => by
    obtain ⟨b, dx, gs, fps, e1, e2, e3, r1, r2, r3, r4⟩ := h
    subst e1 e2
    exact .ins ((k b List.mem_cons_self).trans e3) r1 r2 (r3.frozen sm fun a ha => k a (List.mem_cons_of_mem _ ha)) r4
end
end Pd

end
section
set_option linter.all false
set_option autoImplicit false
set_option Elab.async false
set_option maxRecDepth 100000
/-! Pd.Data: plain values as the library's data. -/
namespace Pd
open PySem PySem.Spec PyProof.Rows L2

mutual
def py : D → PyData
  | .non => .none
  | .bl b => .bool b
  | .int i => .int i
  | .str x => .str (strN x)
  | .lst xs => .list (pys xs)
  | .tup xs => .tuple (pys xs)
  | _ => .none
def pys : List D → List PyData
  | [] => []
  | x :: xs => py x :: pys xs
end
theorem pys_map : ∀ xs : List D, pys xs = xs.map py
  | [] => rfl
  | x :: xs => by rw [pys, pys_map xs]; rfl
theorem strN_eq (x y : List Nat) : (strN x == strN y) = (x == y) := by
  rw [Bool.eq_iff_iff]
  simp [strN]
mutual
theorem plain_py : ∀ (n : Nat) (d : D), plain n d = true → (py d).plain = true ∧ (py d).depth ≤ n
  | _, .non, _ => ⟨rfl, Nat.zero_le _⟩
  | _, .bl _, _ => ⟨rfl, Nat.zero_le _⟩
  | _, .int _, _ => ⟨rfl, Nat.zero_le _⟩
  | _, .str _, _ => ⟨rfl, Nat.zero_le _⟩
  | 0, .lst _, h => by simp [plain] at h
  | n + 1, .lst xs, h => by
    have h' : plains n xs = true := by simpa [plain] using h
    obtain ⟨a, b⟩ := plains_py n xs h'
    exact ⟨by simpa [py, PyData.plain] using a, by simp only [py, PyData.depth]; omega⟩
  | 0, .tup _, h => by simp [plain] at h
  | n + 1, .tup xs, h => by
    have h' : plains n xs = true := by simpa [plain] using h
    obtain ⟨a, b⟩ := plains_py n xs h'
    exact ⟨by simpa [py, PyData.plain] using a, by simp only [py, PyData.depth]; omega⟩
  | n, .dct _ _, h => by simp [plain] at h
  | n, .ins _ _ _, h => by simp [plain] at h
  | n, .scr _, h => by simp [plain] at h
theorem plains_py : ∀ (n : Nat) (ds : List D), plains n ds = true → PyData.plainAll (pys ds) = true ∧ PyData.depthAll (pys ds) ≤ n
  | _, [], _ => ⟨rfl, Nat.zero_le _⟩
  | n, d :: ds, h => by
    have h' : plain n d = true ∧ plains n ds = true := by simpa [plains] using h
    obtain ⟨a, b⟩ := plain_py n d h'.1
    obtain ⟨c, e⟩ := plains_py n ds h'.2
    refine ⟨by simp [pys, PyData.plainAll, a, c], ?_⟩
    simp only [pys, PyData.depthAll]
    omega
end
mutual
theorem eqD_py : ∀ (n m : Nat) (x y : D), plain n x = true → plain m y = true → PyData.eqv (py x) (py y) = eqD x y
  | n, m, .non, y, hx, hy => by cases y <;> first | rfl | simp [plain] at hy
  | n, m, .bl _, y, hx, hy => by cases y <;> first | rfl | simp [plain] at hy
  | n, m, .int _, y, hx, hy => by cases y <;> first | rfl | simp [plain] at hy
  | n, m, .str a, y, hx, hy => by
    cases y with
    | str b => simp only [py, PyData.eqv, eqD]; exact strN_eq a b
    | dct _ _ => simp [plain] at hy
    | ins _ _ _ => simp [plain] at hy
    | scr _ => simp [plain] at hy
    | _ => rfl
  | 0, _, .lst _, _, hx, _ => by simp [plain] at hx
  | 0, _, .tup _, _, hx, _ => by simp [plain] at hx
  | n + 1, 0, .lst xs, y, hx, hy => by cases y <;> first | rfl | simp [plain] at hy
  | n + 1, m + 1, .lst xs, y, hx, hy => by
    cases y with
    | lst ys =>
      simp only [py, PyData.eqv, eqD]
      exact eqDs_py n m xs ys (by simpa [plain] using hx) (by simpa [plain] using hy)
    | dct _ _ => simp [plain] at hy
    | ins _ _ _ => simp [plain] at hy
    | scr _ => simp [plain] at hy
    | _ => rfl
  | n + 1, 0, .tup xs, y, hx, hy => by cases y <;> first | rfl | simp [plain] at hy
  | n + 1, m + 1, .tup xs, y, hx, hy => by
    cases y with
    | tup ys =>
      simp only [py, PyData.eqv, eqD]
      exact eqDs_py n m xs ys (by simpa [plain] using hx) (by simpa [plain] using hy)
    | dct _ _ => simp [plain] at hy
    | ins _ _ _ => simp [plain] at hy
    | scr _ => simp [plain] at hy
    | _ => rfl
  | _, _, .dct _ _, _, hx, _ => by simp [plain] at hx
  | _, _, .ins _ _ _, _, hx, _ => by simp [plain] at hx
  | _, _, .scr _, _, hx, _ => by simp [plain] at hx
theorem eqDs_py : ∀ (n m : Nat) (xs ys : List D), plains n xs = true → plains m ys = true → PyData.eqvAll (pys xs) (pys ys) = eqDs xs ys
  | _, _, [], [], _, _ => rfl
  | _, _, [], _ :: _, _, _ => rfl
  | _, _, _ :: _, [], _, _ => rfl
  | n, m, x :: xs, y :: ys, hx, hy => by
    have hx' : plain n x = true ∧ plains n xs = true := by simpa [plains] using hx
    have hy' : plain m y = true ∧ plains m ys = true := by simpa [plains] using hy
    simp only [pys, PyData.eqvAll, eqDs]
    rw [eqD_py n m x y hx'.1 hy'.1, eqDs_py n m xs ys hx'.2 hy'.2]
end
mutual
theorem alk_py : ∀ (n m : Nat) (x y : D), plain n x = true → plain m y = true → PySem.W.alike (py x) (py y) = alk x y
  | n, m, .non, y, hx, hy => by cases y <;> first | rfl | simp [plain] at hy
  | n, m, .bl _, y, hx, hy => by cases y <;> first | rfl | simp [plain] at hy
  | n, m, .int _, y, hx, hy => by cases y <;> first | rfl | simp [plain] at hy
  | n, m, .str a, y, hx, hy => by cases y <;> first | rfl | simp [plain] at hy
  | 0, _, .lst _, _, hx, _ => by simp [plain] at hx
  | 0, _, .tup _, _, hx, _ => by simp [plain] at hx
  | n + 1, 0, .lst xs, y, hx, hy => by cases y <;> first | rfl | simp [plain] at hy
  | n + 1, m + 1, .lst xs, y, hx, hy => by
    cases y with
    | lst ys =>
      simp only [py, PySem.W.alike, alk]
      exact alks_py n m xs ys (by simpa [plain] using hx) (by simpa [plain] using hy)
    | dct _ _ => simp [plain] at hy
    | ins _ _ _ => simp [plain] at hy
    | scr _ => simp [plain] at hy
    | _ => rfl
  | n + 1, 0, .tup xs, y, hx, hy => by cases y <;> first | rfl | simp [plain] at hy
  | n + 1, m + 1, .tup xs, y, hx, hy => by
    cases y with
    | tup ys =>
      simp only [py, PySem.W.alike, alk]
      exact alks_py n m xs ys (by simpa [plain] using hx) (by simpa [plain] using hy)
    | dct _ _ => simp [plain] at hy
    | ins _ _ _ => simp [plain] at hy
    | scr _ => simp [plain] at hy
    | _ => rfl
  | _, _, .dct _ _, _, hx, _ => by simp [plain] at hx
  | _, _, .ins _ _ _, _, hx, _ => by simp [plain] at hx
  | _, _, .scr _, _, hx, _ => by simp [plain] at hx
theorem alks_py : ∀ (n m : Nat) (xs ys : List D), plains n xs = true → plains m ys = true → PySem.W.alikeAll (pys xs) (pys ys) = alks xs ys
  | _, _, [], [], _, _ => rfl
  | _, _, [], _ :: _, _, _ => rfl
  | _, _, _ :: _, [], _, _ => rfl
  | n, m, x :: xs, y :: ys, hx, hy => by
    have hx' : plain n x = true ∧ plains n xs = true := by simpa [plains] using hx
    have hy' : plain m y = true ∧ plains m ys = true := by simpa [plains] using hy
    simp only [pys, PySem.W.alikeAll, alks]
    rw [alk_py n m x y hx'.1 hy'.1, alks_py n m xs ys hx'.2 hy'.2]
end
mutual
theorem ltD_py : ∀ (n m : Nat) (x y : D), plain n x = true → plain m y = true → alk x y = true → PySem.W.dataLt (py x) (py y) = ltD x y
  | n, m, .non, y, hx, hy, h => by
    cases y with
    | non => exact lex_irrefl (O := itemOrd) _
    | _ => simp [alk] at h
  | n, m, .bl a, y, hx, hy, h => by
    cases y with
    | bl b => simp only [py, PySem.W.dataLt_bool, ltD]; cases a <;> cases b <;> rfl
    | _ => simp [alk] at h
  | n, m, .int a, y, hx, hy, h => by
    cases y with
    | int b => simp only [py, PySem.W.dataLt_int, ltD]
    | _ => simp [alk] at h
  | n, m, .str a, y, hx, hy, h => by
    cases y with
    | str b => simp only [py, PySem.W.dataLt_str, ltD, strN]
    | _ => simp [alk] at h
  | 0, _, .lst _, _, hx, _, _ => by simp [plain] at hx
  | 0, _, .tup _, _, hx, _, _ => by simp [plain] at hx
  | n + 1, 0, .lst xs, y, hx, hy, h => by cases y <;> first | (simp [alk] at h; done) | simp [plain] at hy
  | n + 1, m + 1, .lst xs, y, hx, hy, h => by
    cases y with
    | lst ys =>
      simp only [py, PySem.W.dataLt_list, ltD]
      exact ltDs_py n m xs ys (by simpa [plain] using hx) (by simpa [plain] using hy) (by simpa [alk] using h)
    | _ => simp [alk] at h
  | n + 1, 0, .tup xs, y, hx, hy, h => by cases y <;> first | (simp [alk] at h; done) | simp [plain] at hy
  | n + 1, m + 1, .tup xs, y, hx, hy, h => by
    cases y with
    | tup ys =>
      simp only [py, PySem.W.dataLt_tuple, ltD]
      exact ltDs_py n m xs ys (by simpa [plain] using hx) (by simpa [plain] using hy) (by simpa [alk] using h)
    | _ => simp [alk] at h
  | _, _, .dct _ _, _, hx, _, _ => by simp [plain] at hx
  | _, _, .ins _ _ _, _, hx, _, _ => by simp [plain] at hx
  | _, _, .scr _, _, hx, _, _ => by simp [plain] at hx
theorem ltDs_py : ∀ (n m : Nat) (xs ys : List D), plains n xs = true → plains m ys = true → alks xs ys = true → PyProof.Rows.lexLt itemOrd (PySem.W.keyToksAll (pys xs)) (PySem.W.keyToksAll (pys ys)) = ltDs xs ys
  | _, _, [], [], _, _, _ => lex_irrefl (O := itemOrd) _
  | _, _, [], y :: ys, _, _, _ => by
    simp only [pys, PySem.W.toks_all_cons, PySem.W.keyToksAll, ltDs]
    rw [lex_diff (O := itemOrd) (by simp)]
    simp [itemLt]
  | _, _, x :: xs, [], _, _, _ => by
    simp only [pys, PySem.W.toks_all_cons, PySem.W.keyToksAll, ltDs]
    rw [lex_diff (O := itemOrd) (by simp)]
    simp [itemLt]
  | n, m, x :: xs, y :: ys, hx, hy, h => by
    have hx' : plain n x = true ∧ plains n xs = true := by simpa [plains] using hx
    have hy' : plain m y = true ∧ plains m ys = true := by simpa [plains] using hy
    have h' : alk x y = true ∧ alks xs ys = true := by simpa [alks] using h
    have ha : PySem.W.alike (py x) (py y) = true := by rw [alk_py n m x y hx'.1 hy'.1]; exact h'.1
    have he := eqD_py n m x y hx'.1 hy'.1
    simp only [pys, ltDs]
    cases e : eqD x y with
    | true =>
      rw [PySem.W.dataLt_all_yes ha (he.trans e), if_pos rfl]
      exact ltDs_py n m xs ys hx'.2 hy'.2 h'.2
    | false =>
      rw [PySem.W.dataLt_all_no ha (he.trans e), if_neg Bool.false_ne_true]
      exact ltD_py n m x y hx'.1 hy'.1 h'.1
end

section
variable {g : G} {F H : Hp} {X : Cx} {pins : List (Addr × Obj)} {σ : L2.St} {s : Shared}
mutual
theorem Rep.dp (sb : Sub F H) : ∀ (n : Nat) (d : D) (v : V), plain n d = true → Rep g F v d → Dp g.K H v (py d)
  | n, .non, v, hp, h => by cases h; exact .non
  | n, .bl b, v, hp, h => by cases h; exact .bl b
  | n, .int i, v, hp, h => by cases h; exact .int i
  | n, .str x, v, hp, h => by cases h with | str _ _ => exact .str _
  | 0, .lst _, v, hp, h => by simp [plain] at hp
  | n + 1, .lst xs, v, hp, h => by
    cases h with
    | lst h1 h2 h3 => exact .lst (.inl (.inl (sb.lst h1))) (Reps.dp sb n xs _ (by simpa [plain] using hp) h3)
  | 0, .tup _, v, hp, h => by simp [plain] at hp
  | n + 1, .tup xs, v, hp, h => by
    cases h with
    | tup h1 h2 h3 => exact .tup (sb.sqT (g := g) h1) (Reps.dp sb n xs _ (by simpa [plain] using hp) h3)
  | n, .dct _ _, v, hp, h => by simp [plain] at hp
  | n, .ins _ _ _, v, hp, h => by simp [plain] at hp
  | n, .scr _, v, hp, h => by simp [plain] at hp
theorem Reps.dp (sb : Sub F H) : ∀ (n : Nat) (ds : List D) (vs : List V), plains n ds = true → Reps g F vs ds → DpAll g.K H vs (pys ds)
  | n, [], vs, hp, h => by cases h; exact .nil
  | n, d :: ds, vs, hp, h => by
    have h' : plain n d = true ∧ plains n ds = true := by simpa [plains] using hp
    cases h with
    | cons h1 h2 => exact .cons (Rep.dp sb n d _ h'.1 h1) (Reps.dp sb n ds _ h'.2 h2)
end
end
end Pd

end
section
set_option linter.all false
set_option autoImplicit false
set_option Elab.async false
set_option maxRecDepth 100000
/-! Pd.Ops1: operators on values. -/
namespace Pd
open PySem PySem.Spec PyProof.Rows L2

theorem lim_eq : lim = sizeLine := by rw [sizeLine_eq]; rfl
/-- what an outcome asks -/
def PoE (g : G) (F H : Hp) (fr : Bool) (Q : VK) (s : SV) : Prop :=
  ∀ v F' H' fp, Grow F H F' H' → OwnS g F' H' v s fp → (fr = true → ∀ a ∈ fp, H a = none) → (∀ a ∈ fp, F' a = none) → fp.Nodup → Q v H'
section
variable {g : G} {F F' H H' : Hp} {fr : Bool} {Q : VK} {v : V} {d : D} {s : SV} {p : Addr} {vs : List V} {xs : List D}
theorem PoE.grow (x : Grow F H F' H') (h : PoE g F H fr Q s) : PoE g F' H' fr Q s := fun v F2 H2 fp y o n f nd =>
  h v F2 H2 fp (x.trans y) o (fun e a ha => x.none (n e a ha)) f nd
theorem PoE.val (h : PoE g F H fr Q (fz d)) (x : Grow F H F' H') (r : Rep g F' v d) : Q v H' := h v F' H' [] x ⟨rfl, r⟩ (fun _ _ z => nomatch z) (fun _ z => nomatch z) .nil
theorem PoE.pure (h : PoE g F H fr Q (fz d)) (sb : Sub F H) (r : Rep g F v d) : Q v H := h.val (Grow.refl sb) r
theorem PoE.newL (h : PoE g F H fr Q (oL xs)) (sb : Sub F H) (n : H p = none) (r : Reps g F vs xs) (z : vs.length ≤ sizeLine) : Q (.ref p) (upd H p (.lst vs)) :=
  h (.ref p) F (upd H p (.lst vs)) [p] (Grow.own sb n) ⟨p, vs, rfl, rfl, upd_same, z, r⟩ (fun _ a ha => by cases List.mem_singleton.mp ha; exact n) (fun a ha => by cases List.mem_singleton.mp ha; exact sb.none n) (by simp)
theorem PoE.newT (h : PoE g F H fr Q (fz (.tup xs))) (sb : Sub F H) (n : H p = none) (r : Reps g F vs xs) (z : vs.length ≤ sizeLine) : Q (.ref p) (upd H p (.tup vs)) := by
  have x : Grow F H (upd F p (.tup vs)) (upd H p (.tup vs)) := Grow.new sb n
  exact h.val x (.tup (.inl (.inl upd_same)) z (Reps.mono (x.same sb) xs r))
/-! inversion -/
theorem own_int {i : Int} {fp : List Addr} (h : OwnS g F H v (fz (.int i)) fp) : v = .int i := by
  obtain ⟨_, r⟩ : fp = [] ∧ Rep g F v (.int i) := h
  cases r; rfl
theorem own_bl {b : Bool} {fp : List Addr} (h : OwnS g F H v (fz (.bl b)) fp) : v = .bl b := by
  obtain ⟨_, r⟩ : fp = [] ∧ Rep g F v (.bl b) := h
  cases r; rfl
theorem own_str {x : List Nat} {fp : List Addr} (h : OwnS g F H v (fz (.str x)) fp) : v = .str (strN x) ∧ x.length ≤ sizeLine := by
  obtain ⟨_, r⟩ : fp = [] ∧ Rep g F v (.str x) := h
  cases r with
  | str _ z => exact ⟨rfl, z⟩
theorem own_fz {fp : List Addr} (h : OwnS g F H v (fz d) fp) : Rep g F v d := by
  obtain ⟨_, r⟩ : fp = [] ∧ Rep g F v d := h
  exact r
theorem own_tup {fp : List Addr} (sb : Sub F H) (h : OwnS g F H v (fz (.tup xs)) fp) : ∃ a vs, v = .ref a ∧ SqT g.K H a vs ∧ vs.length ≤ sizeLine ∧ Reps g F vs xs ∧ SqT g.K F a vs := by
  have r := own_fz h
  cases r with
  | tup h1 h2 h3 => exact ⟨_, _, rfl, sb.sqT (g := g) h1, h2, h3, h1⟩
theorem own_list {fp : List Addr} (sb : Sub F H) (e : s.list? = some xs) (h : OwnS g F H v s fp) : ∃ a vs, v = .ref a ∧ H a = some (.lst vs) ∧ vs.length ≤ sizeLine ∧ Reps g F vs xs := by
  match s, e, h with
  | .o (.fz (.lst ys)), e, h =>
    cases Option.some.inj e
    have r := own_fz h
    cases r with
    | lst h1 h2 h3 => exact ⟨_, _, rfl, sb.lst h1, h2, h3⟩
  | .o (.lst ys), e, h =>
    cases Option.some.inj e
    obtain ⟨a, vs, e1, _, e3, z, r⟩ := h
    exact ⟨a, vs, e1, e3, z, r⟩
theorem own_seq {fp : List Addr} (sb : Sub F H) (e : s.seq? = some xs) (h : OwnS g F H v s fp) : ∃ a vs, v = .ref a ∧ (SqL g.K H a vs ∨ SqT g.K H a vs) ∧ vs.length ≤ sizeLine ∧ Reps g F vs xs := by
  match s, e, h with
  | .o (.fz (.lst ys)), e, h =>
    cases Option.some.inj e
    have r := own_fz h
    cases r with
    | lst h1 h2 h3 => exact ⟨_, _, rfl, .inl (.inl (.inl (sb.lst h1))), h2, h3⟩
  | .o (.lst ys), e, h =>
    cases Option.some.inj e
    obtain ⟨a, vs, e1, _, e3, z, r⟩ := h
    exact ⟨a, vs, e1, .inl (.inl (.inl e3)), z, r⟩
  | .o (.fz (.tup ys)), e, h =>
    cases Option.some.inj e
    obtain ⟨a, vs, e1, e3, z, r, _⟩ := own_tup sb h
    exact ⟨a, vs, e1, .inr e3, z, r⟩
end

/-- an operation on two values, by the evaluator's own -/
def r2 (g : G) (fr : Bool) (h : SV → SV → Option SV) : R2 := fun x y H Q => ∃ F sx sy fx fy s, Sub F H ∧ OwnS g F H x sx fx ∧ OwnS g F H y sy fy ∧ (∀ a ∈ fx, F a = none) ∧ (∀ a ∈ fy, F a = none) ∧ h sx sy = some s ∧ PoE g F H fr Q s
def r2b (g : G) (h : SV → SV → Option Bool) : R2 := fun x y H Q => ∃ F sx sy fx fy b, Sub F H ∧ OwnS g F H x sx fx ∧ OwnS g F H y sy fy ∧ h sx sy = some b ∧ Q (.bl b) H

/-- the context stands in the world of g -/
structure Std (g : G) (X : Cx) : Prop where
  pr : X.prog = g.P
  w : X.w = g.w
  K : X.K = g.K
  un : X.A.units + 150 < cLine
  calm : X.calm = true

theorem small64_ok {i : Int} (h : small64 i = true) : -(2 ^ 64) < i ∧ i < 2 ^ 64 := of_decide_eq_true h
theorem strN_app (x y : List Nat) : strN x ++ strN y = strN (x ++ y) := by
  show Str.append (strN x) (strN y) = strN (x ++ y)
  unfold Str.append strN
  simp
theorem strN_len (x : List Nat) : (strN x).length = x.length := by
  show (strN x).cps.size = x.length
  simp [strN]
def opOf : Bop → Operator
  | .add => .Add
  | .sub => .Sub
  | .mul => .Mult
  | .fdiv => .FloorDiv
  | .mod => .Mod
  | .pow => .Pow
  | .band => .BitAnd
  | .bor => .BitOr
section
variable {g : G} {X : Cx}
theorem op_binI (o : Bop) {pins : List (Addr × Obj)} {s : Shared} {σ : L2.St} {H F : Hp} {i j : Int} {v u : Value} {Q : VK} {fr : Bool} {z : SV} (I : Inv X pins σ H s) (sb : Sub F H) (rx : RelV (.int i) v) (ry : RelV (.int j) u) (h : binI o i j = some z) (q : PoE g F H fr Q z) :
    wpAny (model X.prog X.w) X.A (binaryOp (opOf o) v u) (EP X pins σ Q) X.xe s := by
  cases o with
  | add => cases Option.some.inj h; exact op_add pins s σ H _ _ v u Q I rx ry ⟨i, j, rfl, rfl, q.pure sb (.int _)⟩
  | sub => cases Option.some.inj h; exact op_sub pins s σ H _ _ v u Q I rx ry ⟨i, j, rfl, rfl, q.pure sb (.int _)⟩
  | mul =>
    unfold binI at h
    simp only at h
    split at h
    · rename_i c
      cases Option.some.inj h
      refine op_mul pins s σ H _ _ v u Q I rx ry ⟨i, j, rfl, rfl, ?_, q.pure sb (.int _)⟩
      rcases Bool.or_eq_true_iff.mp c with c | c
      · exact .inl (small64_ok c)
      · exact .inr (small64_ok c)
    · cases h
  | fdiv =>
    unfold binI at h
    simp only at h
    split at h
    · rename_i c
      cases Option.some.inj h
      exact op_fdiv pins s σ H _ _ v u Q I rx ry ⟨i, j, rfl, rfl, c, q.pure sb (.int _)⟩
    · cases h
  | mod =>
    unfold binI at h
    simp only at h
    split at h
    · rename_i c
      cases Option.some.inj h
      exact op_mod pins s σ H _ _ v u Q I rx ry ⟨i, j, rfl, rfl, c, q.pure sb (.int _)⟩
    · cases h
  | pow =>
    unfold binI at h
    simp only at h
    split at h
    · rename_i c
      cases Option.some.inj h
      exact op_pow pins s σ H _ _ v u Q I rx ry ⟨i, j, rfl, rfl, c, q.pure sb (.int _)⟩
    · cases h
  | band => cases h
  | bor => cases h
theorem op_binS (st : Std g X) (o : Bop) : OpR X (binaryOp (opOf o)) (r2 g true (binS o)) := by
  intro pins s σ H x y v u Q I rx ry h
  obtain ⟨F, sx, sy, fx, fy, z, sb, ox, oy, nx, ny, e, q⟩ := h
  have lists : binL o sx sy = some z → wpAny (model X.prog X.w) X.A (binaryOp (opOf o) v u) (EP X pins σ Q) X.xe s := fun e0 => by
    unfold binL at e0
    split at e0
    · rename_i ho
      subst ho
      cases e1 : sx.list? with
      | none => rw [e1] at e0; cases e0
      | some xs =>
        cases e2 : sy.list? with
        | none => rw [e1, e2] at e0; cases e0
        | some ys =>
          rw [e1, e2] at e0
          have e0 : mkL (xs ++ ys) = some z := e0
          unfold mkL at e0
          split at e0
          · rename_i hl
            cases Option.some.inj e0
            obtain ⟨a, vs, rfl, ha, za, ra⟩ := own_list sb e1 ox
            obtain ⟨b, ws, rfl, hb, zb, rb⟩ := own_list sb e2 oy
            have hz : vs.length + ws.length ≤ sizeLine := by rw [← lim_eq]; rw [ra.length, rb.length, ← List.length_append]; exact hl
            exact op_cat pins s σ H _ _ v u Q I rx ry ⟨a, b, vs, ws, rfl, rfl, ha, hb, hz, fun p hp => q.newL sb hp (ra.append rb) (by rw [List.length_append]; exact hz)⟩
          · cases e0
    · cases e0
  unfold binS at e
  split at e
  · rename_i i j
    cases own_int ox
    cases own_int oy
    exact op_binI o I sb rx ry e q
  · rename_i a b
    obtain ⟨rfl, za⟩ := own_str ox
    obtain ⟨rfl, zb⟩ := own_str oy
    split at e
    · rename_i ho
      subst ho
      unfold mkS at e
      split at e
      · rename_i hl
        cases Option.some.inj e
        have hz : a.length + b.length ≤ sizeLine := by rw [← lim_eq, ← List.length_append]; exact hl
        refine op_add_str pins s σ H _ _ v u Q I rx ry ⟨_, _, rfl, rfl, by rw [strN_len, strN_len]; exact hz, ?_⟩
        rw [strN_app]
        exact q.pure sb (.str _ (by rw [List.length_append]; exact hz))
      · cases e
    · cases e
  · rename_i xs ys
    split at e
    · rename_i ho
      subst ho
      unfold mkT at e
      split at e
      · rename_i hl
        cases Option.some.inj e
        obtain ⟨a, vs, rfl, ha, za, ra, ha'⟩ := own_tup sb ox
        obtain ⟨b, ws, rfl, hb, zb, rb, hb'⟩ := own_tup sb oy
        have hz : vs.length + ws.length ≤ sizeLine := by rw [← lim_eq]; rw [ra.length, rb.length, ← List.length_append]; exact hl
        refine op_catA pins s σ H _ _ v u Q I rx ry ⟨a, b, vs, ws, rfl, rfl, by rw [st.K]; exact ha, by rw [st.K]; exact hb, hz, fun e1 => ?_, fun e1 e2 => ?_, fun e1 e2 p hp => q.newT sb hp (ra.append rb) (by rw [List.length_append]; exact hz)⟩
        · subst e1
          cases ra
          exact q.pure sb (own_fz oy)
        · subst e2
          cases rb
          rw [List.append_nil] at q
          exact q.pure sb (own_fz ox)
      · cases e
    · cases e
  · exact lists e
end
end Pd

end
section
set_option linter.all false
set_option autoImplicit false
set_option Elab.async false
set_option maxRecDepth 100000
/-! Pd.Dict: dicts whose keys are ints and texts, or nested tuples. -/
namespace Pd
open PySem PySem.Spec PyProof.Rows L2

mutual
theorem eqD_nk : ∀ (n m : Nat) (x y : D), tupK n x = true → tupK m y = true → eqD x y = NestedKey.beq (nk x) (nk y)
  | n, m, .non, y, hx, hy => by cases y <;> first | rfl | simp [tupK] at hy
  | n, m, .bl a, y, hx, hy => by
    cases y with
    | bl b => simp only [nk, NestedKey.beq, eqD]; cases a <;> cases b <;> rfl
    | int j => simp only [nk, NestedKey.beq, eqD]; exact Bool.beq_eq_decide_eq _ _
    | non => rfl
    | str _ => rfl
    | tup _ => rfl
    | _ => simp [tupK] at hy
  | n, m, .int a, y, hx, hy => by
    cases y with
    | bl b => simp only [nk, NestedKey.beq, eqD]; exact Bool.beq_eq_decide_eq _ _
    | int j => simp only [nk, NestedKey.beq, eqD]; exact Bool.beq_eq_decide_eq _ _
    | non => rfl
    | str _ => rfl
    | tup _ => rfl
    | _ => simp [tupK] at hy
  | n, m, .str a, y, hx, hy => by
    cases y with
    | str b =>
      simp only [nk, NestedKey.beq, eqD]
      rw [← strN_eq a b]
      exact Bool.beq_eq_decide_eq _ _
    | non => rfl
    | bl _ => rfl
    | int _ => rfl
    | tup _ => rfl
    | _ => simp [tupK] at hy
  | 0, _, .tup _, _, hx, _ => by simp [tupK] at hx
  | n + 1, 0, .tup xs, y, hx, hy => by cases y <;> first | rfl | simp [tupK] at hy
  | n + 1, m + 1, .tup xs, y, hx, hy => by
    cases y with
    | tup ys =>
      simp only [nk, NestedKey.beq, eqD]
      exact eqDs_nk n m xs ys (by simpa [tupK] using hx) (by simpa [tupK] using hy)
    | non => rfl
    | bl _ => rfl
    | int _ => rfl
    | str _ => rfl
    | _ => simp [tupK] at hy
  | _, _, .lst _, _, hx, _ => by simp [tupK] at hx
  | _, _, .dct _ _, _, hx, _ => by simp [tupK] at hx
  | _, _, .ins _ _ _, _, hx, _ => by simp [tupK] at hx
  | _, _, .scr _, _, hx, _ => by simp [tupK] at hx
theorem eqDs_nk : ∀ (n m : Nat) (xs ys : List D), tupKs n xs = true → tupKs m ys = true → eqDs xs ys = NestedKey.beqAll (nks xs) (nks ys)
  | _, _, [], [], _, _ => rfl
  | _, _, [], _ :: _, _, _ => rfl
  | _, _, _ :: _, [], _, _ => rfl
  | n, m, x :: xs, y :: ys, hx, hy => by
    have hx' : tupK n x = true ∧ tupKs n xs = true := by simpa [tupKs] using hx
    have hy' : tupK m y = true ∧ tupKs m ys = true := by simpa [tupKs] using hy
    simp only [nks, NestedKey.beqAll, eqDs]
    rw [eqD_nk n m x y hx'.1 hy'.1, eqDs_nk n m xs ys hx'.2 hy'.2]
end
mutual
theorem tupK_depth : ∀ (n : Nat) (x : D), tupK n x = true → (nk x).depth ≤ n
  | _, .non, _ => Nat.zero_le _
  | _, .bl _, _ => Nat.zero_le _
  | _, .int _, _ => Nat.zero_le _
  | _, .str _, _ => Nat.zero_le _
  | 0, .tup _, h => by simp [tupK] at h
  | n + 1, .tup xs, h => by
    have := tupKs_depth n xs (by simpa [tupK] using h)
    simp only [nk, NestedKey.depth]; omega
  | _, .lst _, h => by simp [tupK] at h
  | _, .dct _ _, h => by simp [tupK] at h
  | _, .ins _ _ _, h => by simp [tupK] at h
  | _, .scr _, h => by simp [tupK] at h
theorem tupKs_depth : ∀ (n : Nat) (xs : List D), tupKs n xs = true → NestedKey.depthAll (nks xs) ≤ n
  | _, [], _ => Nat.zero_le _
  | n, x :: xs, h => by
    have h' : tupK n x = true ∧ tupKs n xs = true := by simpa [tupKs] using h
    have a := tupK_depth n x h'.1
    have b := tupKs_depth n xs h'.2
    simp only [nks, NestedKey.depthAll]; omega
end
theorem isKT_tupK {x : D} (h : isKT x = true) : tupK 8 x = true := by
  cases x with
  | tup xs => simpa [isKT, tupK] using h
  | _ => simp [isKT] at h
theorem leaf_tupK {x : D} (h : leafK x = true) : tupK 8 x = true := by
  cases x <;> simp_all [leafK, tupK]
theorem eqD_dec {x y : D} (hx : tupK 8 x = true) (hy : tupK 8 y = true) : eqD x y = decide (nk x = nk y) := by
  rw [NestedKey.decide_eq]; exact eqD_nk 8 8 x y hx hy
/-- among keys of one kind -/
theorem keyOk_cases {ks : List D} {k : D} (h : keyOk ks k = true) : (leafK k = true ∧ ∀ x ∈ ks, leafK x = true) ∨ (isKT k = true ∧ ∀ x ∈ ks, isKT x = true) := by
  unfold keyOk at h
  rcases Bool.or_eq_true_iff.mp h with h | h
  · obtain ⟨a, b⟩ := Bool.and_eq_true_iff.mp h
    exact .inl ⟨a, List.all_eq_true.mp b⟩
  · obtain ⟨a, b⟩ := Bool.and_eq_true_iff.mp h
    exact .inr ⟨a, List.all_eq_true.mp b⟩
theorem keyOk_tupK {ks : List D} {k : D} (h : keyOk ks k = true) : tupK 8 k = true ∧ ∀ x ∈ ks, tupK 8 x = true := by
  rcases keyOk_cases h with ⟨a, b⟩ | ⟨a, b⟩
  · exact ⟨leaf_tupK a, fun x hx => leaf_tupK (b x hx)⟩
  · exact ⟨isKT_tupK a, fun x hx => isKT_tupK (b x hx)⟩

/-! ### what a table holds, by D keys -/
section
variable {α β : Type}
theorem getK_map (f : α → β) (k : D) : ∀ (ks : List D) (vs : List α), getK k ks (vs.map f) = (getK k ks vs).map f
  | [], _ => rfl
  | _ :: _, [] => rfl
  | x :: xs, v :: vs => by
    simp only [List.map_cons, getK]
    split
    · rfl
    · exact getK_map f k xs vs
theorem hasK_getK (k : D) : ∀ (ks : List D) (vs : List α), vs.length = ks.length → hasK k ks = (getK k ks vs).isSome
  | [], _, _ => rfl
  | _ :: _, [], h => by simp at h
  | x :: xs, v :: vs, h => by
    simp only [hasK, getK]
    cases e : eqD x k with
    | true => rfl
    | false => simpa using hasK_getK k xs vs (by simpa using h)
theorem setK_length (k : D) (v : α) : ∀ (ks : List D) (vs : List α), (setK k v ks vs).length = vs.length
  | [], _ => rfl
  | _ :: _, [] => rfl
  | x :: xs, u :: us => by
    simp only [setK]
    split
    · rfl
    · simp [setK_length k v xs us]
theorem putVs_length (k : D) (v : α) (ks : List D) (vs : List α) (h : vs.length = ks.length) : (putVs k v ks vs).length = (putKs k ks).length := by
  unfold putVs putKs
  split
  · rw [setK_length, h]
  · simp [h]
end

/-! ### keys carried by value -/
def keyOf : D → Key
  | .int i => .inl i
  | .str x => .inr (strN x)
  | _ => .inl 0
theorem keyOf_inj {x y : D} (hx : leafK x = true) (hy : leafK y = true) : (keyOf x = keyOf y) ↔ nk x = nk y := by
  cases x with
  | int i => cases y with
    | int j => simp [keyOf, nk]
    | str b => simp [keyOf, nk]
    | _ => simp [leafK] at hy
  | str a => cases y with
    | int j => simp [keyOf, nk]
    | str b => simp [keyOf, nk]
    | _ => simp [leafK] at hy
  | _ => simp [leafK] at hx
theorem keyOf_eqD {x y : D} (hx : leafK x = true) (hy : leafK y = true) : eqD x y = decide (keyOf x = keyOf y) := by
  rw [eqD_dec (leaf_tupK hx) (leaf_tupK hy)]
  exact decide_eq_decide.mpr (keyOf_inj hx hy).symm
theorem keyH_of {w : World} {x : D} (hx : leafK x = true) : keyH w (keyOf x) = (nk x).hash w := by
  cases x <;> first | rfl | simp [leafK] at hx
section
variable {g : G} {F H : Hp} {X : Cx} {pins : List (Addr × Obj)} {σ : L2.St} {s : Shared}
theorem leaf_v {d : D} {v : V} (hl : leafK d = true) (r : Rep g F v d) : v = kV (keyOf d) := by
  cases d with
  | int i => cases r; rfl
  | str x => cases r with | str _ _ => rfl
  | _ => simp [leafK] at hl
theorem leaf_is {P : Program} {w : World} {d : D} {v : V} {u : Value} (hl : leafK d = true) (r : Rep g F v d) (ru : RelV v u) : (mixKind P w).is (keyOf d) u = true := by
  have e := leaf_v hl r
  subst e
  exact kV_is ru

theorem leaf_pairs {P : Program} {w : World} : ∀ {es : List Ent} {ens : List DictEntry} {ks : List D}, Paired (fun (q : Ent) (e : DictEntry) => e.hash = q.1 ∧ RelV q.2.1 e.key ∧ RelV q.2.2 e.val) es ens → Reps g F (es.map (·.2.1)) ks → (∀ x ∈ ks, leafK x = true) →
    es.map (·.1) = ks.map (fun k => (nk k).hash w) → (∀ e ∈ ens, ∃ k, (mixKind P w).is k e.key = true ∧ e.hash = (mixKind P w).hash k) ∧ Pairs (mixKind P w) ens ((ks.map keyOf).zip (ens.map (·.val))) ∧ Vals (es.map (·.2.2)) (ens.map (·.val))
  | [], _, ks, .nil, r, _, _ => by
    cases r
    exact ⟨fun _ h => (nomatch h), .nil, .nil⟩
  | q :: es, _, ks, .cons (b := e) h t, r, hl, hh => by
    cases r with
    | cons r1 r2 =>
      rename_i d ds
      obtain ⟨e1, e2⟩ : q.1 = (nk d).hash w ∧ es.map (·.1) = ds.map (fun k => (nk k).hash w) := by simpa using hh
      obtain ⟨a, b, c⟩ := leaf_pairs (P := P) (w := w) t r2 (fun x hx => hl x (List.mem_cons_of_mem _ hx)) e2
      have ld := hl d List.mem_cons_self
      refine ⟨fun x hx => ?_, .cons (leaf_is ld r1 h.2.1) rfl b, .cons h.2.2 c⟩
      rcases List.mem_cons.mp hx with rfl | hx
      · exact ⟨keyOf d, leaf_is ld r1 h.2.1, by rw [h.1, e1]; exact (keyH_of ld).symm⟩
      · exact a x hx
theorem leaf_nodup {ks : List D} (hl : ∀ x ∈ ks, leafK x = true) (h : (nks ks).Nodup) : (ks.map keyOf).Nodup := by
  induction ks with
  | nil => exact .nil
  | cons x xs ih =>
    rw [nks, List.nodup_cons] at h
    rw [List.map_cons, List.nodup_cons]
    refine ⟨fun hm => ?_, ih (fun y hy => hl y (List.mem_cons_of_mem _ hy)) h.2⟩
    obtain ⟨y, hy, e⟩ := List.mem_map.mp hm
    apply h.1
    rw [← (keyOf_inj (hl y (List.mem_cons_of_mem _ hy)) (hl x List.mem_cons_self)).mp e]
    clear ih h hm e hl
    induction xs with
    | nil => cases hy
    | cons z zs ih2 =>
      rw [nks]
      rcases List.mem_cons.mp hy with rfl | hy
      · exact List.mem_cons_self
      · exact List.mem_cons_of_mem _ (ih2 hy)
theorem zip_fst {α β : Type} : ∀ {xs : List α} {ys : List β}, xs.length = ys.length → (xs.zip ys).map (·.1) = xs
  | [], [], _ => rfl
  | [], _ :: _, h => by simp at h
  | _ :: _, [], h => by simp at h
  | x :: xs, y :: ys, h => by simp [zip_fst (xs := xs) (ys := ys) (by simpa using h)]
theorem leaf_dictOf {P : Program} {w : World} {h : Heap} {a : Addr} {es : List Ent} {ks : List D} (x : DictAt h a es) (r : Reps g F (es.map (·.2.1)) ks) (hl : ∀ x ∈ ks, leafK x = true) (hh : es.map (·.1) = ks.map (fun k => (nk k).hash w)) (nd : (nks ks).Nodup) :
    ∃ vs : List Value, Vals (es.map (·.2.2)) vs ∧ vs.length = ks.length ∧ h.DictOf (mixKind P w) a ((ks.map keyOf).zip vs) := by
  obtain ⟨z, y, o, ens, ep, e1, e2, e3, pr⟩ := x
  obtain ⟨p1, p2, p3⟩ := leaf_pairs (P := P) (w := w) pr r hl hh
  have len : (ens.toList.map (·.val)).length = ks.length := by
    have h1 := p3.length
    have h2 := r.length
    simp only [List.length_map] at h1 h2 ⊢
    omega
  refine ⟨ens.toList.map (·.val), p3, len, o, ens, ep, e1, e2, e3, fun e he => p1 e (by simpa using he), p2, ?_⟩
  rw [zip_fst (by rw [List.length_map]; exact len.symm)]
  exact leaf_nodup hl nd
theorem leaf_look {kd : D} (lk : leafK kd = true) : ∀ {ks : List D} {ws : List V} {vs : List Value}, (∀ x ∈ ks, leafK x = true) → Vals ws vs → RelO (getK kd ks ws) (valueAt ((ks.map keyOf).zip vs) (keyOf kd))
  | [], _, _, _, _ => True.intro
  | _ :: _, _, _, _, .nil => True.intro
  | x :: xs, _, _, hl, .cons (a := w) (b := u) r t => by
    have e := keyOf_eqD (hl x List.mem_cons_self) lk
    have ih := leaf_look lk (ks := xs) (fun y hy => hl y (List.mem_cons_of_mem _ hy)) t
    simp only [getK, List.map_cons, List.zip_cons_cons, valueAt, List.find?_cons]
    rw [e]
    by_cases q : keyOf x = keyOf kd
    · simp only [q, decide_true, if_true]
      exact r
    · simp only [q, decide_false, Bool.false_eq_true, if_false]
      exact ih
theorem leaf_any {kd : D} (lk : leafK kd = true) : ∀ {ks : List D} {vs : List Value}, (∀ x ∈ ks, leafK x = true) → vs.length = ks.length → (((ks.map keyOf).zip vs).any fun kv => decide (kv.1 = keyOf kd)) = hasK kd ks
  | [], _, _, _ => rfl
  | _ :: _, [], _, h => by simp at h
  | x :: xs, v :: vs, hl, h => by
    simp only [List.map_cons, List.zip_cons_cons, List.any_cons, hasK]
    rw [leaf_any lk (fun y hy => hl y (List.mem_cons_of_mem _ hy)) (by simpa using h), keyOf_eqD (hl x List.mem_cons_self) lk]
theorem leaf_map {kd : D} (lk : leafK kd = true) (u : Value) : ∀ {ks : List D} {vs : List Value}, (∀ x ∈ ks, leafK x = true) → (ks.map keyOf).Nodup → vs.length = ks.length →
    (((ks.map keyOf).zip vs).map fun kv => if kv.1 = keyOf kd then (kv.1, u) else kv) = (ks.map keyOf).zip (setK kd u ks vs)
  | [], _, _, _, _ => rfl
  | _ :: _, [], _, _, h => by simp at h
  | x :: xs, v :: vs, hl, nd, h => by
    rw [List.map_cons, List.nodup_cons] at nd
    simp only [List.map_cons, List.zip_cons_cons, setK]
    rw [keyOf_eqD (hl x List.mem_cons_self) lk]
    by_cases q : keyOf x = keyOf kd
    · simp only [q, decide_true, if_true, List.zip_cons_cons]
      congr 1
      have nm : keyOf kd ∉ xs.map keyOf := q ▸ nd.1
      have : ∀ {ks : List Key} {vs : List Value}, keyOf kd ∉ ks → ((ks.zip vs).map fun kv => if kv.1 = keyOf kd then (kv.1, u) else kv) = ks.zip vs := by
        intro ks
        induction ks with
        | nil => intro vs _; rfl
        | cons k ks ih =>
          intro vs hn
          cases vs with
          | nil => rfl
          | cons v vs =>
            rw [List.mem_cons, not_or] at hn
            rw [List.zip_cons_cons, List.map_cons, if_neg (fun e => hn.1 e.symm), ih hn.2]
      exact this nm
    · simp only [q, decide_false, Bool.false_eq_true, if_false, List.zip_cons_cons]
      rw [leaf_map lk u (fun y hy => hl y (List.mem_cons_of_mem _ hy)) nd.2 (by simpa using h)]
theorem leaf_stored {kd : D} (lk : leafK kd = true) (u : Value) {ks : List D} {vs : List Value} (hl : ∀ x ∈ ks, leafK x = true) (nd : (ks.map keyOf).Nodup) (h : vs.length = ks.length) :
    stored ((ks.map keyOf).zip vs) (keyOf kd) u = ((putKs kd ks).map keyOf).zip (putVs kd u ks vs) := by
  unfold stored putKs putVs
  rw [leaf_any lk hl h]
  split
  · exact leaf_map lk u hl nd h
  · rw [List.map_append, List.zip_append (by rw [List.length_map, h])]
    rfl
/-- back to entries -/
theorem leaf_back {P : Program} {w : World} : ∀ {ens : List DictEntry} {ks : List D} {ws : List V} {vs : List Value}, Pairs (mixKind P w) ens ((ks.map keyOf).zip vs) → (∀ e ∈ ens, ∃ k, (mixKind P w).is k e.key = true ∧ e.hash = (mixKind P w).hash k) → (∀ x ∈ ks, leafK x = true) → Vals ws vs → vs.length = ks.length →
    Paired (fun (q : Ent) (e : DictEntry) => e.hash = q.1 ∧ RelV q.2.1 e.key ∧ RelV q.2.2 e.val) ((ks.zip ws).map fun p => ((nk p.1).hash w, kV (keyOf p.1), p.2)) ens
  | ens, [], _, _, p, _, _, _, _ => by
    have p' : Pairs (mixKind P w) ens [] := p
    cases p'
    exact .nil
  | ens, x :: xs, [], _, p, hk, hl, hv, h => by cases hv; simp at h
  | ens, x :: xs, wv :: ws, [], p, hk, hl, hv, h => by simp at h
  | ens, x :: xs, wv :: ws, u :: us, p, hk, hl, hv, h => by
    have ⟨r, t⟩ : RelV wv u ∧ Vals ws us := by
      cases hv with
      | cons r t => exact ⟨r, t⟩
    rw [List.map_cons, List.zip_cons_cons] at p
    cases p with
    | cons h1 h2 h3 =>
      rename_i e es
      obtain ⟨k, k1, k2⟩ := hk _ List.mem_cons_self
      have ek : k = keyOf x := (mixKind P w).inj _ _ _ k1 h1
      subst ek
      rw [List.zip_cons_cons, List.map_cons]
      refine .cons ⟨by rw [k2]; exact keyH_of (hl x List.mem_cons_self), ?_, by rw [h2]; exact r⟩ (leaf_back h3 (fun e he => hk e (List.mem_cons_of_mem _ he)) (fun y hy => hl y (List.mem_cons_of_mem _ hy)) t (by simpa using h))
      have h1' : keyIs (keyOf x) e.key = true := h1
      rcases keyIs_shape h1' with ⟨i, tk, ei, eu⟩ | ⟨y, tk, ei, eu⟩
      · rw [ei, eu]; exact ⟨tk, rfl⟩
      · rw [ei, eu]; exact ⟨tk, rfl⟩
end

/-! ### keys that are tuples -/
inductive TX (w : World) : List Ent → List D → List (NestedKey × Addr × Value) → Prop
  | nil : TX w [] [] []
  | cons {es : List Ent} {ks : List D} {xs : List (NestedKey × Addr × Value)} {k : D} {b : Addr} {wv : V} {u : Value} : RelV wv u → TX w es ks xs → TX w (((nk k).hash w, V.ref b, wv) :: es) (k :: ks) ((nk k, b, u) :: xs)
section
variable {g : G} {F H : Hp} {X : Cx} {pins : List (Addr × Obj)} {σ : L2.St} {s : Shared}
mutual
theorem Rep.nested (st : Std g X) (I : Inv X pins σ H s) (sb : Sub F H) : ∀ (n : Nat) (d : D) (v : V) (u : Value), tupK n d = true → Rep g F v d → RelV v u → NestedIs s.heap (nk d) u
  | n, .non, v, u, _, h, r => by cases h; cases r; exact .none
  | n, .bl b, v, u, _, h, r => by cases h; cases r; exact .bool rfl
  | n, .int i, v, u, _, h, r => by cases h; obtain ⟨t, rfl⟩ := r; exact .int _ _
  | n, .str x, v, u, _, h, r => by cases h with | str _ _ => obtain ⟨t, rfl⟩ := r; exact .text _ _
  | 0, .tup _, v, u, ht, h, r => by simp [tupK] at ht
  | n + 1, .tup xs, v, u, ht, h, r => by
    cases h with
    | tup h1 h2 h3 =>
      cases r
      obtain ⟨its, rv, ⟨o, ho, hc, m, hd⟩, _⟩ := I.tuple (by rw [st.K]; exact sb.sqT (g := g) h1)
      exact .tup ho hc hd (by simpa using Reps.nested st I sb n xs _ its (by simpa [tupK] using ht) h3 rv)
  | n, .lst _, v, u, ht, h, r => by simp [tupK] at ht
  | n, .dct _ _, v, u, ht, h, r => by simp [tupK] at ht
  | n, .ins _ _ _, v, u, ht, h, r => by simp [tupK] at ht
  | n, .scr _, v, u, ht, h, r => by simp [tupK] at ht
theorem Reps.nested (st : Std g X) (I : Inv X pins σ H s) (sb : Sub F H) : ∀ (n : Nat) (ds : List D) (vs : List V) (us : List Value), tupKs n ds = true → Reps g F vs ds → Vals vs us → NestedAll s.heap (nks ds) us
  | n, [], vs, us, _, h, r => by cases h; cases r; exact .nil
  | n, d :: ds, vs, us, ht, h, r => by
    have ht' : tupK n d = true ∧ tupKs n ds = true := by simpa [tupKs] using ht
    cases h with
    | cons h1 h2 =>
      cases r with
      | cons r1 r2 => exact .cons (Rep.nested st I sb n d _ _ ht'.1 h1 r1) (Reps.nested st I sb n ds _ _ ht'.2 h2 r2)
end
theorem kt_ref {d : D} {v : V} (h : isKT d = true) (r : Rep g F v d) : ∃ b, v = .ref b := by
  cases d with
  | tup xs => cases r; exact ⟨_, rfl⟩
  | _ => simp [isKT] at h
theorem kt_is {P : Program} {w : World} (st : Std g X) (I : Inv X pins σ H s) (sb : Sub F H) {d : D} {b : Addr} (h : isKT d = true) (r : Rep g F (.ref b) d) : (nestedKind P w).is s.heap (nk d) b :=
  ⟨Rep.nested st I sb 8 d (.ref b) (.ref b) (isKT_tupK h) r rfl, tupK_depth 8 d (isKT_tupK h)⟩
theorem tup_lists {P : Program} {w : World} (st : Std g X) (I : Inv X pins σ H s) (sb : Sub F H) : ∀ {es : List Ent} {ens : List DictEntry} {ks : List D}, Paired (fun (q : Ent) (e : DictEntry) => e.hash = q.1 ∧ RelV q.2.1 e.key ∧ RelV q.2.2 e.val) es ens → Reps g F (es.map (·.2.1)) ks → (∀ x ∈ ks, isKT x = true) →
    es.map (·.1) = ks.map (fun k => (nk k).hash w) → ∃ xs, TX w es ks xs ∧ ens = xs.map (entryOfKey (nestedKind P w)) ∧ ∀ x ∈ xs, (nestedKind P w).is s.heap x.1 x.2.1
  | [], _, ks, .nil, r, _, _ => by
    cases r
    exact ⟨[], .nil, rfl, fun _ h => (nomatch h)⟩
  | (h0, kv, wv) :: es, _, ks, .cons (b := e) h t, r, hl, hh => by
    cases r with
    | cons r1 r2 =>
      rename_i d ds
      obtain ⟨e1, e2⟩ : h0 = (nk d).hash w ∧ es.map (·.1) = ds.map (fun k => (nk k).hash w) := by simpa using hh
      obtain ⟨xs, a, b, c⟩ := tup_lists (P := P) (w := w) st I sb t r2 (fun x hx => hl x (List.mem_cons_of_mem _ hx)) e2
      have ld := hl d List.mem_cons_self
      obtain ⟨bb, eb⟩ := kt_ref ld r1
      simp only at eb
      subst eb e1
      obtain ⟨eh, ek, ev⟩ := e
      obtain ⟨q1, q2, q3⟩ : eh = (nk d).hash w ∧ RelV (.ref bb) ek ∧ RelV wv ev := h
      obtain rfl : ek = .ref bb := q2
      subst q1
      refine ⟨(nk d, bb, ev) :: xs, .cons q3 a, by rw [b]; rfl, fun x hx => ?_⟩
      rcases List.mem_cons.mp hx with rfl | hx
      · exact kt_is st I sb ld r1
      · exact c x hx
theorem TX.keys {w : World} : ∀ {es : List Ent} {ks : List D} {xs : List (NestedKey × Addr × Value)}, TX w es ks xs → xs.map (·.1) = nks ks
  | _, _, _, .nil => rfl
  | _, _, _, .cons _ t => by rw [List.map_cons, nks, t.keys]
theorem TX.len {w : World} : ∀ {es : List Ent} {ks : List D} {xs : List (NestedKey × Addr × Value)}, TX w es ks xs → xs.length = ks.length ∧ es.length = ks.length
  | _, _, _, .nil => ⟨rfl, rfl⟩
  | _, _, _, .cons _ t => by simp [t.len]
theorem TX.look {w : World} {kd : D} (lk : isKT kd = true) : ∀ {es : List Ent} {ks : List D} {xs : List (NestedKey × Addr × Value)}, TX w es ks xs → (∀ x ∈ ks, isKT x = true) → RelO (getK kd ks (es.map (·.2.2))) ((atKey xs (nk kd)).map (·.2))
  | _, _, _, .nil, _ => True.intro
  | _, _, _, .cons (k := k) r t, hl => by
    have e := eqD_dec (isKT_tupK (hl k List.mem_cons_self)) (isKT_tupK lk)
    have ih := TX.look lk t (fun y hy => hl y (List.mem_cons_of_mem _ hy))
    simp only [List.map_cons, getK, atKey, List.find?_cons]
    rw [e]
    by_cases q : nk k = nk kd
    · simp only [q, decide_true, if_true]
      exact r
    · simp only [q, decide_false, Bool.false_eq_true, if_false]
      exact ih
theorem tup_dictOf {P : Program} {w : World} {a : Addr} {es : List Ent} {ks : List D} (st : Std g X) (I : Inv X pins σ H s) (sb : Sub F H) (x : DictAt s.heap a es) (r : Reps g F (es.map (·.2.1)) ks) (hl : ∀ x ∈ ks, isKT x = true) (hh : es.map (·.1) = ks.map (fun k => (nk k).hash w)) (nd : (nks ks).Nodup) :
    ∃ xs, TX w es ks xs ∧ s.heap.DictOfH (nestedKind P w) a xs := by
  obtain ⟨z, y, o, ens, ep, e1, e2, e3, pr⟩ := x
  obtain ⟨xs, p1, p2, p3⟩ := tup_lists (P := P) (w := w) st I sb pr r hl hh
  exact ⟨xs, p1, o, ens, ep, e1, e2, e3, p2, p3, by rw [p1.keys]; exact nd⟩
end

/-! ### stores -/
def setEn (kd : D) (wv : V) : List D → List Ent → List Ent
  | x :: xs, q :: es => if eqD x kd then (q.1, q.2.1, wv) :: es else q :: setEn kd wv xs es
  | _, es => es
def putEn (kd : D) (e : Ent) (ks : List D) (es : List Ent) : List Ent := if hasK kd ks then setEn kd e.2.2 ks es else es ++ [e]
theorem setEn_fst (kd : D) (wv : V) : ∀ (ks : List D) (es : List Ent), (setEn kd wv ks es).map (·.1) = es.map (·.1) ∧ (setEn kd wv ks es).map (·.2.1) = es.map (·.2.1)
  | [], _ => ⟨rfl, rfl⟩
  | _ :: _, [] => ⟨rfl, rfl⟩
  | x :: xs, q :: es => by
    simp only [setEn]
    split
    · exact ⟨rfl, rfl⟩
    · have ih := setEn_fst kd wv xs es
      exact ⟨by simp [ih.1], by simp [ih.2]⟩
theorem setEn_val (kd : D) (wv : V) : ∀ (ks : List D) (es : List Ent), (setEn kd wv ks es).map (·.2.2) = setK kd wv ks (es.map (·.2.2))
  | [], _ => rfl
  | _ :: _, [] => rfl
  | x :: xs, q :: es => by
    simp only [setEn, List.map_cons, setK]
    split
    · rfl
    · simp [setEn_val kd wv xs es]
theorem setEn_len (kd : D) (wv : V) (ks : List D) (es : List Ent) : (setEn kd wv ks es).length = es.length := by
  have := congrArg List.length (setEn_fst kd wv ks es).1
  simpa using this
theorem putEn_val (kd : D) (e : Ent) (ks : List D) (es : List Ent) : (putEn kd e ks es).map (·.2.2) = putVs kd e.2.2 ks (es.map (·.2.2)) := by
  unfold putEn putVs
  split
  · exact setEn_val kd _ ks es
  · simp
theorem putEn_len (kd : D) (e : Ent) (ks : List D) (es : List Ent) (h : es.length < lim) : (putEn kd e ks es).length ≤ sizeLine := by
  rw [← lim_eq]
  unfold putEn
  split
  · rw [setEn_len]; omega
  · rw [List.length_append, List.length_singleton]; omega
theorem putEn_hash {w : World} {kd : D} {e : Ent} {ks : List D} {es : List Ent} (he : e.1 = (nk kd).hash w) (h : es.map (·.1) = ks.map (fun k => (nk k).hash w)) : (putEn kd e ks es).map (·.1) = (putKs kd ks).map (fun k => (nk k).hash w) := by
  unfold putEn putKs
  split
  · rw [(setEn_fst _ _ _ _).1, h]
  · rw [List.map_append, List.map_append, h]; simp [he]
theorem putEn_keys {g : G} {F : Hp} {kd : D} {e : Ent} {ks : List D} {es : List Ent} (he : Rep g F e.2.1 kd) (h : Reps g F (es.map (·.2.1)) ks) : Reps g F ((putEn kd e ks es).map (·.2.1)) (putKs kd ks) := by
  unfold putEn putKs
  split
  · rw [(setEn_fst _ _ _ _).2]; exact h
  · rw [List.map_append]; exact h.append (.cons he .nil)
theorem setK_reps {g : G} {F : Hp} {kd : D} {wv : V} {d : D} (r : Rep g F wv d) : ∀ {ks : List D} {ws : List V} {ds : List D}, Reps g F ws ds → Reps g F (setK kd wv ks ws) (setK kd d ks ds)
  | [], _, _, h => h
  | _ :: _, _, _, .nil => .nil
  | x :: xs, _, _, .cons h t => by
    simp only [setK]
    split
    · exact .cons r t
    · exact .cons h (setK_reps r t)
theorem putVs_reps {g : G} {F : Hp} {kd : D} {wv : V} {d : D} (r : Rep g F wv d) {ks : List D} {ws : List V} {ds : List D} (h : Reps g F ws ds) : Reps g F (putVs kd wv ks ws) (putVs kd d ks ds) := by
  unfold putVs
  split
  · exact setK_reps r h
  · exact h.append (.cons r .nil)
theorem nks_mem {x : D} : ∀ {ks : List D}, x ∈ ks → nk x ∈ nks ks
  | y :: ys, h => by
    rw [nks]
    rcases List.mem_cons.mp h with rfl | h
    · exact List.mem_cons_self
    · exact List.mem_cons_of_mem _ (nks_mem h)
theorem nks_append : ∀ (xs ys : List D), nks (xs ++ ys) = nks xs ++ nks ys
  | [], _ => rfl
  | x :: xs, ys => by simp [nks, nks_append xs ys]
theorem mem_nks {y : NestedKey} : ∀ {ks : List D}, y ∈ nks ks → ∃ x ∈ ks, nk x = y
  | [], h => by cases h
  | x :: xs, h => by
    rw [nks] at h
    rcases List.mem_cons.mp h with rfl | h
    · exact ⟨x, List.mem_cons_self, rfl⟩
    · obtain ⟨z, hz, e⟩ := mem_nks h
      exact ⟨z, List.mem_cons_of_mem _ hz, e⟩
theorem hasK_iff {kd : D} (hk : tupK 8 kd = true) : ∀ {ks : List D}, (∀ x ∈ ks, tupK 8 x = true) → (hasK kd ks = true ↔ nk kd ∈ nks ks)
  | [], _ => by simp [hasK, nks]
  | x :: xs, h => by
    have e := eqD_dec (h x List.mem_cons_self) hk
    have ih := hasK_iff hk (ks := xs) (fun y hy => h y (List.mem_cons_of_mem _ hy))
    simp only [hasK, nks, List.mem_cons, Bool.or_eq_true, ih, e, decide_eq_true_eq]
    exact ⟨fun q => q.imp Eq.symm id, fun q => q.imp Eq.symm id⟩
theorem putKs_nodup {kd : D} {ks : List D} (h : keyOk ks kd = true) (nd : (nks ks).Nodup) : (nks (putKs kd ks)).Nodup := by
  obtain ⟨a, b⟩ := keyOk_tupK h
  unfold putKs
  split
  · exact nd
  · rename_i hn
    rw [nks_append, List.nodup_append]
    refine ⟨nd, by simp [nks], fun x hx y hy => ?_⟩
    have : y = nk kd := by simpa [nks] using hy
    subst this
    rintro rfl
    exact hn ((hasK_iff a b).mpr hx)
theorem putKs_all {kd : D} {ks : List D} (h : keyOk ks kd = true) : keyAll (putKs kd ks) = true := by
  unfold keyAll putKs
  rcases keyOk_cases h with ⟨a, b⟩ | ⟨a, b⟩
  · refine Bool.or_eq_true_iff.mpr (.inl ?_)
    split
    · exact List.all_eq_true.mpr b
    · rw [List.all_append, Bool.and_eq_true]
      exact ⟨List.all_eq_true.mpr b, by simp [a]⟩
  · refine Bool.or_eq_true_iff.mpr (.inr ?_)
    split
    · exact List.all_eq_true.mpr b
    · rw [List.all_append, Bool.and_eq_true]
      exact ⟨List.all_eq_true.mpr b, by simp [a]⟩
theorem TX.map_putAt {w : World} {kd : D} (lk : isKT kd = true) {wv : V} {u : Value} (r : RelV wv u) : ∀ {es : List Ent} {ks : List D} {xs : List (NestedKey × Addr × Value)}, TX w es ks xs → (∀ x ∈ ks, isKT x = true) → (nks ks).Nodup → TX w (setEn kd wv ks es) ks (xs.map (putAt (nk kd) u))
  | _, _, _, .nil, _, _ => .nil
  | _, _, _, .cons (k := k) (xs := xs) h t, hl, nd => by
    rw [nks, List.nodup_cons] at nd
    have e := eqD_dec (isKT_tupK (hl k List.mem_cons_self)) (isKT_tupK lk)
    simp only [setEn, List.map_cons, putAt, e]
    by_cases q : nk k = nk kd
    · simp only [q, decide_true, if_true]
      have hn : nk kd ∉ xs.map (·.1) := by rw [t.keys, ← q]; exact nd.1
      have hm : xs.map (putAt (nk kd) u) = xs := map_putAt_of_not_mem xs (nk kd) u hn
      rw [← q] at hm ⊢
      rw [hm]
      exact .cons r t
    · simp only [q, decide_false, Bool.false_eq_true, if_false]
      exact .cons h (TX.map_putAt lk r t (fun y hy => hl y (List.mem_cons_of_mem _ hy)) nd.2)
theorem TX.snoc {w : World} {k : D} {b : Addr} {wv : V} {u : Value} (r : RelV wv u) : ∀ {es : List Ent} {ks : List D} {xs : List (NestedKey × Addr × Value)}, TX w es ks xs → TX w (es ++ [((nk k).hash w, V.ref b, wv)]) (ks ++ [k]) (xs ++ [(nk k, b, u)])
  | _, _, _, .nil => .cons r .nil
  | _, _, _, .cons h t => .cons h (TX.snoc r t)
theorem TX.has {w : World} {kd : D} (lk : isKT kd = true) {es : List Ent} {ks : List D} {xs : List (NestedKey × Addr × Value)} (t : TX w es ks xs) (hl : ∀ x ∈ ks, isKT x = true) : hasK kd ks = (atKey xs (nk kd)).isSome := by
  have h := (t.look lk hl).isSome_eq
  rw [Option.isSome_map] at h
  rw [hasK_getK kd ks (es.map (·.2.2)) (by rw [List.length_map]; exact t.len.2), h]
theorem TX.put {w : World} {kd : D} (lk : isKT kd = true) {b : Addr} {wv : V} {u : Value} (r : RelV wv u) {es : List Ent} {ks : List D} {xs : List (NestedKey × Addr × Value)} (t : TX w es ks xs) (hl : ∀ x ∈ ks, isKT x = true) (nd : (nks ks).Nodup) :
    TX w (putEn kd ((nk kd).hash w, .ref b, wv) ks es) (putKs kd ks) (storedH xs (nk kd) b u) := by
  have e := t.has lk hl
  unfold putEn putKs storedH
  rw [← e]
  split
  · exact TX.map_putAt lk r t hl nd
  · exact TX.snoc r t
theorem TX.paired {P : Program} {w : World} : ∀ {es : List Ent} {ks : List D} {xs : List (NestedKey × Addr × Value)}, TX w es ks xs → Paired (fun (q : Ent) (e : DictEntry) => e.hash = q.1 ∧ RelV q.2.1 e.key ∧ RelV q.2.2 e.val) es (xs.map (entryOfKey (nestedKind P w)))
  | _, _, _, .nil => .nil
  | _, _, _, .cons r t => .cons ⟨rfl, rfl, r⟩ t.paired
end Pd

end
section
set_option linter.all false
set_option autoImplicit false
set_option Elab.async false
set_option maxRecDepth 100000
/-! Pd.DictOps: dict operations on the state. -/
namespace Pd
open PySem PySem.Spec PyProof.Rows L2

structure DF (g : G) (F : Hp) (es : List Ent) (ks : List D) : Prop where
  keys : Reps g F (es.map (·.2.1)) ks
  hash : es.map (·.1) = ks.map (fun k => (nk k).hash g.w)
  all : keyAll ks = true
  nd : (nks ks).Nodup
section
variable {g : G} {F H : Hp} {X : Cx} {pins : List (Addr × Obj)} {σ : L2.St} {s : Shared} {a : Addr} {es : List Ent} {ks : List D} {kd : D} {kv wv : V} {u r : Value} {A : Around} {E : Value → Shared → Prop}
theorem DF.len (d : DF g F es ks) : es.length = ks.length := by simpa using d.keys.length
theorem dict_at (I : Inv X pins σ H s) (e : Rd H a (dictHO a es)) : DictAt s.heap a es := (e.ok I.hok).1
theorem dict_typeIs' (x : DictAt s.heap a es) : s.TypeIs (.ref a) "dict" := by
  obtain ⟨_, _, o, _, _, h1, h2, _⟩ := x
  exact ⟨o, h1, h2.1⟩
theorem dict_noDict' (x : DictAt s.heap a es) : ∀ b, Value.ref a = .ref b → ∃ ob, s.heap.get? b = some ob ∧ ob.dict = none := fun b q => by
  cases q
  obtain ⟨_, _, o, _, _, h1, h2, _⟩ := x
  exact ⟨o, h1, h2.2.1⟩
/-- d[k], there -/
theorem e_getItem {Q : Value → Shared → Prop} (st : Std g X) (hu : A.units + 100 < cLine) (I : Inv X pins σ H s) (sb : Sub F H) (e : Rd H a (dictHO a es)) (d : DF g F es ks) (hk : keyOk ks kd = true) (rk : Rep g F kv kd) (ru : RelV kv u) (hg : getK kd ks (es.map (·.2.2)) = some wv)
    (h : ∀ w' s', Inv X pins σ H s' → RelV wv w' → Q w' s') : wpAny (model X.prog X.w) A (getItem (.ref a) u) Q E s := by
  have x := dict_at I e
  rcases keyOk_cases hk with ⟨lk, hl⟩ | ⟨lk, hl⟩
  · obtain ⟨vs, v1, v2, dd⟩ := leaf_dictOf (P := X.prog) (w := X.w) x d.keys hl (by rw [st.w]; exact d.hash) d.nd
    obtain ⟨w', hw, rw'⟩ := RelO.some_of (v := wv) (o := valueAt ((ks.map keyOf).zip vs) (keyOf kd)) (by rw [← hg]; exact leaf_look lk hl v1)
    exact wpAny_getItem_of (leaf_is lk rk ru) dd.mapOf hw (h w' _ (I.tok _) rw')
  · obtain ⟨b, rfl⟩ := kt_ref lk rk
    cases ru
    obtain ⟨xs, t, dd⟩ := tup_dictOf (P := X.prog) (w := X.w) st I sb x d.keys hl (by rw [st.w]; exact d.hash) d.nd
    obtain ⟨w', hw, rw'⟩ := RelO.some_of (v := wv) (o := (atKey xs (nk kd)).map (·.2)) (by rw [← hg]; exact t.look lk hl)
    obtain ⟨p, hp, hp2⟩ := Option.map_eq_some_iff.mp hw
    refine wpAny_getItem_heap (knd := nestedKind X.prog X.w) (show A.units + 1 + 8 < cLine by omega) (kt_is st I sb lk rk) dd hp ?_
    rw [hp2]
    exact h w' _ (I.tok _) rw'
theorem e_in {Q : Value → Shared → Prop} (st : Std g X) (hu : A.units + 100 < cLine) (I : Inv X pins σ H s) (sb : Sub F H) (e : Rd H a (dictHO a es)) (d : DF g F es ks) (hk : keyOk ks kd = true) (rk : Rep g F kv kd) (ru : RelV kv u)
    (h : ∀ s', Inv X pins σ H s' → Q (.bool (hasK kd ks)) s') : wpAny (model X.prog X.w) A (compareOp .In u (.ref a)) Q E s := by
  have x := dict_at I e
  have hy : (a == sysModules) = false := x.2.1
  rcases keyOk_cases hk with ⟨lk, hl⟩ | ⟨lk, hl⟩
  · obtain ⟨vs, v1, v2, dd⟩ := leaf_dictOf (P := X.prog) (w := X.w) x d.keys hl (by rw [st.w]; exact d.hash) d.nd
    refine wpAny_in_of (leaf_is lk rk ru) hy dd.mapOf ?_
    rw [← (leaf_look lk hl v1).isSome_eq, ← hasK_getK kd ks _ (by rw [List.length_map]; exact d.len)]
    exact h _ (I.tok _)
  · obtain ⟨b, rfl⟩ := kt_ref lk rk
    cases ru
    obtain ⟨xs, t, dd⟩ := tup_dictOf (P := X.prog) (w := X.w) st I sb x d.keys hl (by rw [st.w]; exact d.hash) d.nd
    refine wpAny_in_heap (knd := nestedKind X.prog X.w) (show A.units + 1 + 8 < cLine by omega) (kt_is st I sb lk rk) hy dd ?_
    rw [← t.has lk hl]
    exact h _ (I.tok _)
theorem e_notIn {Q : Value → Shared → Prop} (st : Std g X) (hu : A.units + 100 < cLine) (I : Inv X pins σ H s) (sb : Sub F H) (e : Rd H a (dictHO a es)) (d : DF g F es ks) (hk : keyOk ks kd = true) (rk : Rep g F kv kd) (ru : RelV kv u)
    (h : ∀ s', Inv X pins σ H s' → Q (.bool (!hasK kd ks)) s') : wpAny (model X.prog X.w) A (compareOp .NotIn u (.ref a)) Q E s := by
  have x := dict_at I e
  have hy : (a == sysModules) = false := x.2.1
  rcases keyOk_cases hk with ⟨lk, hl⟩ | ⟨lk, hl⟩
  · obtain ⟨vs, v1, v2, dd⟩ := leaf_dictOf (P := X.prog) (w := X.w) x d.keys hl (by rw [st.w]; exact d.hash) d.nd
    refine wpAny_notIn_of (leaf_is lk rk ru) hy dd.mapOf ?_
    rw [← (leaf_look lk hl v1).isSome_eq, ← hasK_getK kd ks _ (by rw [List.length_map]; exact d.len)]
    exact h _ (I.tok _)
  · obtain ⟨b, rfl⟩ := kt_ref lk rk
    cases ru
    obtain ⟨xs, t, dd⟩ := tup_dictOf (P := X.prog) (w := X.w) st I sb x d.keys hl (by rw [st.w]; exact d.hash) d.nd
    refine wpAny_notIn_heap (knd := nestedKind X.prog X.w) (show A.units + 1 + 8 < cLine by omega) (kt_is st I sb lk rk) hy dd ?_
    rw [← t.has lk hl]
    exact h _ (I.tok _)
/-- d[k] = r -/
theorem e_setItem {Q : Unit → Shared → Prop} (st : Std g X) (hu : A.units + 100 < cLine) (I : Inv X pins σ H s) (sb : Sub F H) (e : H a = some (dictHO a es)) (d : DF g F es ks) (hk : keyOk ks kd = true) (rk : Rep g F kv kd) (ru : RelV kv u) (rr : RelV wv r) (hz : ks.length < lim)
    (h : ∀ s', Inv X pins σ (upd H a (dictHO a (putEn kd ((nk kd).hash g.w, kv, wv) ks es))) s' → Q () s') : wpAny (model X.prog X.w) A (setItem (.ref a) u r) Q E s := by
  have x := dict_at I (.inl e)
  have hy : (a == sysModules) = false := x.2.1
  have hle : es.length < lim := by rw [d.len]; exact hz
  have hls : es.length ≤ sizeLine := by rw [← lim_eq]; omega
  have zl := putEn_len kd ((nk kd).hash g.w, kv, wv) ks es hle
  rcases keyOk_cases hk with ⟨lk, hl⟩ | ⟨lk, hl⟩
  · obtain ⟨vs, v1, v2, dd⟩ := leaf_dictOf (P := X.prog) (w := X.w) x d.keys hl (by rw [st.w]; exact d.hash) d.nd
    refine wpAny_setItem_pairs (hsz := by rw [List.length_zip, List.length_map, v2, Nat.min_self, ← d.len]; exact hls) (leaf_is lk rk ru) dd fun h' dd' hs => ?_
    rw [leaf_stored lk r hl (leaf_nodup hl d.nd) v2] at dd'
    obtain ⟨o, ens, ep, q1, q2, q3, q4, q5, q6⟩ := dd'
    refine h _ (I.write (x := a) (e := a) (by rw [e]; exact True.intro) (.inl rfl) (fun b q hb z => (hs.2 b hb).trans z) ⟨o, q1⟩ (DictAt.ok ⟨zl, hy, o, ens, ep, q1, q2, q3, ?_⟩))
    have hlp : ∀ y ∈ putKs kd ks, leafK y = true := by
      unfold putKs
      split
      · exact hl
      · intro y hyy
        rcases List.mem_append.mp hyy with q | q
        · exact hl y q
        · cases List.mem_singleton.mp q; exact lk
    have vals : Vals (putVs kd wv ks (es.map (·.2.2))) (putVs kd r ks vs) := by
      have setv : ∀ {ks : List D} {ws : List V} {vs : List Value}, Vals ws vs → Vals (setK kd wv ks ws) (setK kd r ks vs) := by
        intro ks
        induction ks with
        | nil => intro ws vs hv; exact hv
        | cons y ys ih =>
          intro ws vs hv
          cases hv with
          | nil => exact .nil
          | cons a b =>
            simp only [setK]
            split
            · exact .cons rr b
            · exact .cons a (ih b)
      unfold putVs
      split
      · exact setv v1
      · exact v1.append (.cons rr .nil)
    have back := leaf_back (P := X.prog) (w := X.w) (ens := ens.toList) q5 (fun e0 he0 => q4 e0 (by simpa using he0)) hlp vals (by rw [putVs_length kd r ks vs v2])
    have same : putEn kd ((nk kd).hash g.w, kv, wv) ks es = ((putKs kd ks).zip (putVs kd wv ks (es.map (·.2.2)))).map fun p => ((nk p.1).hash X.w, kV (keyOf p.1), p.2) := by
      have h1 := putEn_hash (w := g.w) (kd := kd) (e := ((nk kd).hash g.w, kv, wv)) (ks := ks) (es := es) rfl d.hash
      have h2 := putEn_keys (g := g) (F := F) (kd := kd) (e := ((nk kd).hash g.w, kv, wv)) (ks := ks) (es := es) rk d.keys
      have h3 := putEn_val kd ((nk kd).hash g.w, kv, wv) ks es
      rw [st.w]
      generalize putEn kd ((nk kd).hash g.w, kv, wv) ks es = L at h1 h2 h3
      generalize putVs kd wv ks (es.map (·.2.2)) = W at h3
      generalize putKs kd ks = KK at h1 h2 hlp
      subst h3
      clear back
      induction L generalizing KK with
      | nil => cases h2; rfl
      | cons q L ih =>
        rw [List.map_cons] at h2
        cases h2 with
        | cons r1 r2 =>
          rename_i y ys
          obtain ⟨e1, e2⟩ : q.1 = (nk y).hash g.w ∧ L.map (·.1) = ys.map (fun k => (nk k).hash g.w) := by simpa using h1
          have e3 := leaf_v (hlp y List.mem_cons_self) r1
          rw [List.map_cons, List.zip_cons_cons, List.map_cons, ← ih ys e2 r2 (fun z hz => hlp z (List.mem_cons_of_mem _ hz))]
          obtain ⟨q1, q2, q3⟩ := q
          simp only at e1 e3
          rw [e1, e3]
    rw [same]
    exact back
  · obtain ⟨b, rfl⟩ := kt_ref lk rk
    cases ru
    obtain ⟨xs, t, dd⟩ := tup_dictOf (P := X.prog) (w := X.w) st I sb x d.keys hl (by rw [st.w]; exact d.hash) d.nd
    refine wpAny_setItem_heap (knd := nestedKind X.prog X.w) (hsz := by rw [t.len.1, ← d.len]; exact hls) (show A.units + 1 + 8 < cLine by omega) (kt_is st I sb lk rk) dd fun h' dd' hs => ?_
    obtain ⟨o, ens, ep, q1, q2, q3, q4, q5, q6⟩ := dd'
    refine h _ (I.write (x := a) (e := a) (by rw [e]; exact True.intro) (.inl rfl) (fun b q hb z => (hs.2 b hb).trans z) ⟨o, q1⟩ (DictAt.ok ⟨zl, hy, o, ens, ep, q1, q2, q3, ?_⟩))
    rw [q4, ← st.w]
    exact (t.put lk rr hl d.nd).paired
/-- d.get(k), d.get(k, x) -/
theorem e_get {more : List Value} {dv : V} {dr : Value} {Q : Value → Shared → Prop} (st : Std g X) (hu : A.units + 100 < cLine) (I : Inv X pins σ H s) (sb : Sub F H) (e : Rd H a (dictHO a es)) (d : DF g F es ks) (hk : keyOk ks kd = true) (rk : Rep g F kv kd) (ru : RelV kv u)
    (hm : (more = [] ∧ dv = .non) ∨ (more = [dr] ∧ RelV dv dr)) (h : ∀ w' s', Inv X pins σ H s' → RelV ((getK kd ks (es.map (·.2.2))).getD dv) w' → Q w' s') : wpAny (model X.prog X.w) A (call (.builtin "dict.get") (.ref a :: u :: more)) Q E s := by
  have x := dict_at I e
  have hy : (a == sysModules) = false := x.2.1
  rcases keyOk_cases hk with ⟨lk, hl⟩ | ⟨lk, hl⟩
  · obtain ⟨vs, v1, v2, dd⟩ := leaf_dictOf (P := X.prog) (w := X.w) x d.keys hl (by rw [st.w]; exact d.hash) d.nd
    rcases hm with ⟨rfl, rfl⟩ | ⟨rfl, rd⟩
    · exact call_meetsIn PySem.F.slot_dict_get dd.typeIs PySem.F.entry_dict_get (PySem.F.args_dict_get_2 _ _) (meets_dict_get (mixKind X.prog X.w) a (leaf_is lk rk ru) hy) ⟨_, dd.mapOf, h _ _ (I.tok _) ((leaf_look lk hl v1).getD rfl)⟩
    · exact call_meetsIn PySem.F.slot_dict_get dd.typeIs PySem.F.entry_dict_get (PySem.F.args_dict_get_3 _ _ _) (meets_dict_get_default (mixKind X.prog X.w) a (leaf_is lk rk ru) hy dr) ⟨_, dd.mapOf, h _ _ (I.tok _) ((leaf_look lk hl v1).getD rd)⟩
  · obtain ⟨b, rfl⟩ := kt_ref lk rk
    cases ru
    obtain ⟨xs, t, dd⟩ := tup_dictOf (P := X.prog) (w := X.w) st I sb x d.keys hl (by rw [st.w]; exact d.hash) d.nd
    rcases hm with ⟨rfl, rfl⟩ | ⟨rfl, rd⟩
    · exact call_meetsIn PySem.F.slot_dict_get dd.typeIs PySem.F.entry_dict_get (PySem.F.args_dict_get_2 _ _) (meetsH_dict_get (nestedKind X.prog X.w) a b hy) ⟨show A.units + 1 + 8 < cLine by omega, nk kd, xs, kt_is st I sb lk rk, dd, h _ _ (I.tok _) ((t.look lk hl).getD rfl)⟩
    · exact call_meetsIn PySem.F.slot_dict_get dd.typeIs PySem.F.entry_dict_get (PySem.F.args_dict_get_3 _ _ _) (meetsH_dict_get_default (nestedKind X.prog X.w) a b hy dr) ⟨show A.units + 1 + 8 < cLine by omega, nk kd, xs, kt_is st I sb lk rk, dd, h _ _ (I.tok _) ((t.look lk hl).getD rd)⟩
end
end Pd

end
section
set_option linter.all false
set_option autoImplicit false
set_option Elab.async false
set_option maxRecDepth 100000
/-! Pd.Ops2: comparisons, subscripts, slices, attributes. -/
namespace Pd
open PySem PySem.Spec PyProof.Rows L2

def copOf : Cop → CmpOp
  | .eq => .Eq
  | .ne => .NotEq
  | .lt => .Lt
  | .le => .LtE
  | .gt => .Gt
  | .ge => .GtE
  | .is_ => .Is
  | .isn => .IsNot
  | .in_ => .In
  | .nin => .NotIn
section
variable {g : G} {F H : Hp} {X : Cx} {pins : List (Addr × Obj)} {σ : L2.St} {s : Shared}
theorem Rep.reads (st : Std g X) (I : Inv X pins σ H s) (sb : Sub F H) {n : Nat} {d : D} {v : V} {u : Value} (hp : plain n d = true) (r : Rep g F v d) (ru : RelV v u) : ∃ as, Reads s.heap u (py d) as :=
  Dp.reads I (py d) v u (by rw [st.K]; exact Rep.dp sb n d v hp r) ru
theorem own_view {v : V} {s : SV} {fp : List Addr} {d : D} (sb : Sub F H) (e : s.view = d) (p : plain 60 d = true) (h : OwnS g F H v s fp) : Dp g.K H v (py d) := by
  match s, e, h with
  | .o (.fz d'), e, h =>
    have e' : d' = d := e
    subst e'
    exact Rep.dp sb 60 d' v p (own_fz h)
  | .o (.lst xs), e, h =>
    have e' : D.lst xs = d := e
    subst e'
    obtain ⟨a, vs, e1, _, e3, z, r⟩ := h
    subst e1
    exact .lst (.inl (.inl e3)) (Reps.dp sb 59 xs vs (by simpa [plain] using p) r)
  | .o (.dct ks vs), e, h =>
    have e' : D.dct ks vs = d := e
    subst e'
    simp [plain] at p
  | .o (.dcl ks vs), e, h =>
    have e' : D.dct ks (vs.map .lst) = d := e
    subst e'
    simp [plain] at p
  | .ins c ns fs, e, h =>
    have e' : D.ins c ns (fs.map OV.view) = d := e
    subst e'
    simp [plain] at p
theorem op_cmpI (o : Cop) {i j : Int} {v u : Value} {Q : VK} {b : Bool} (I : Inv X pins σ H s) (rx : RelV (.int i) v) (ry : RelV (.int j) u) (h : cmpI o i j = some b) (q : Q (.bl b) H) :
    wpAny (model X.prog X.w) X.A (compareOp (copOf o) v u) (EP X pins σ Q) X.xe s := by
  obtain ⟨t, rfl⟩ := rx
  obtain ⟨t', rfl⟩ := ry
  cases o with
  | eq => cases Option.some.inj h; exact eq_int ⟨.bl _, H, I, rfl, q⟩
  | ne => cases Option.some.inj h; exact ne_int ⟨.bl _, H, I, rfl, q⟩
  | lt => cases Option.some.inj h; exact lt_int ⟨.bl _, H, I, rfl, q⟩
  | le => cases Option.some.inj h; exact le_int ⟨.bl _, H, I, rfl, q⟩
  | gt => cases Option.some.inj h; exact gt_int ⟨.bl _, H, I, rfl, q⟩
  | ge => cases Option.some.inj h; exact ge_int ⟨.bl _, H, I, rfl, q⟩
  | _ => cases h
theorem own_none {v : V} {s : SV} {fp : List Addr} (h : OwnS g F H v s fp) : (v = .non) ↔ s.view = .non := by
  match s, h with
  | .o (.fz d), h =>
    have r := own_fz h
    show v = .non ↔ d = .non
    constructor
    · rintro rfl; cases r; rfl
    · rintro rfl; cases r; rfl
  | .o (.lst xs), h => obtain ⟨a, vs, rfl, _⟩ := h; exact ⟨fun e => (nomatch e), fun e => (nomatch (show D.lst xs = D.non from e))⟩
  | .o (.dct ks vs), h => obtain ⟨a, es, rfl, _⟩ := h; exact ⟨fun e => (nomatch e), fun e => (nomatch (show D.dct ks vs = D.non from e))⟩
  | .o (.dcl ks vs), h => obtain ⟨a, es, as, rfl, _⟩ := h; exact ⟨fun e => (nomatch e), fun e => (nomatch (show D.dct ks (vs.map .lst) = D.non from e))⟩
  | .ins c ns fs, h => obtain ⟨a, dx, gs, fps, rfl, _⟩ := h; exact ⟨fun e => (nomatch e), fun e => (nomatch (show D.ins c ns (fs.map OV.view) = D.non from e))⟩
theorem op_cmpV (st : Std g X) (o : Cop) {x y : V} {sx sy : SV} {fx fy : List Addr} {v u : Value} {Q : VK} {b : Bool} (I : Inv X pins σ H s) (sb : Sub F H) (rx : RelV x v) (ry : RelV y u) (ox : OwnS g F H x sx fx) (oy : OwnS g F H y sy fy) (h : cmpV o sx.view sy.view = some b) (q : Q (.bl b) H) :
    wpAny (model X.prog X.w) X.A (compareOp (copOf o) v u) (EP X pins σ Q) X.xe s := by
  have hun := st.un
  cases o with
  | eq =>
    unfold cmpV at h
    simp only at h
    split at h
    · rename_i c
      obtain ⟨c1, c2⟩ := Bool.and_eq_true_iff.mp c
      cases Option.some.inj h
      obtain ⟨as, r1⟩ := Dp.reads I _ x v (by rw [st.K]; exact own_view sb rfl c1 ox) rx
      obtain ⟨bs, r2⟩ := Dp.reads I _ y u (by rw [st.K]; exact own_view sb rfl c2 oy) ry
      obtain ⟨p1, d1⟩ := plain_py 60 _ c1
      obtain ⟨p2, d2⟩ := plain_py 60 _ c2
      refine SeqAt.eq_plain r1 r2 p1 p2 ?_ ⟨.bl _, H, I, rfl, ?_⟩
      · have := Nat.min_le_left (py sx.view).depth (py sy.view).depth; omega
      · rw [eqD_py 60 60 _ _ c1 c2]; exact q
    · cases h
  | ne =>
    unfold cmpV at h
    simp only at h
    split at h
    · rename_i c
      obtain ⟨c1, c2⟩ := Bool.and_eq_true_iff.mp c
      cases Option.some.inj h
      obtain ⟨as, r1⟩ := Dp.reads I _ x v (by rw [st.K]; exact own_view sb rfl c1 ox) rx
      obtain ⟨bs, r2⟩ := Dp.reads I _ y u (by rw [st.K]; exact own_view sb rfl c2 oy) ry
      obtain ⟨p1, d1⟩ := plain_py 60 _ c1
      obtain ⟨p2, d2⟩ := plain_py 60 _ c2
      refine SeqAt.ne_plain r1 r2 p1 p2 ?_ ⟨.bl _, H, I, rfl, ?_⟩
      · have := Nat.min_le_left (py sx.view).depth (py sy.view).depth; omega
      · rw [eqD_py 60 60 _ _ c1 c2]; exact q
    · cases h
  | lt =>
    unfold cmpV at h
    simp only at h
    split at h
    · rename_i c
      simp only [Bool.and_eq_true] at c
      obtain ⟨⟨⟨⟨ca, c1⟩, c2⟩, c3⟩, c4⟩ := c
      cases Option.some.inj h
      obtain ⟨as, r1⟩ := Dp.reads I _ x v (by rw [st.K]; exact own_view sb rfl c1 ox) rx
      obtain ⟨bs, r2⟩ := Dp.reads I _ y u (by rw [st.K]; exact own_view sb rfl c2 oy) ry
      obtain ⟨p1, d1⟩ := plain_py 60 _ c1
      obtain ⟨p2, d2⟩ := plain_py 60 _ c2
      have hn : py sx.view ≠ .none := by
        generalize sx.view = d at c3
        cases d with
        | tup xs => exact fun e => (nomatch (show PyData.tuple (pys xs) = PyData.none from e))
        | _ => simp [isTup1] at c3
      have := PySem.W.rcLt_alike _ _ X.A s v u as bs r1 r2 (by rw [alk_py 60 60 _ _ c1 c2]; exact ca) hn (by have := Nat.min_le_left (py sx.view).depth (py sy.view).depth; omega)
      refine this X.prog X.w X.xe _ ⟨.bl _, H, I, rfl, ?_⟩
      rw [ltD_py 60 60 _ _ c1 c2 ca]; exact q
    · cases h
  | is_ =>
    unfold cmpV at h
    simp only at h
    split at h
    · rename_i e
      cases Option.some.inj h
      refine op_isN pins s σ H x y v u Q I rx ry ⟨(own_none oy).mpr e, ?_⟩
      have e2 : decide (x = .non) = (match sx.view with | .non => true | _ => false) := by
        have := own_none ox
        cases ev : sx.view with
        | non => simp [this.mpr ev]
        | _ => exact decide_eq_false fun z => by have := this.mp z; rw [ev] at this; cases this
      rw [e2]; exact q
    · cases h
  | isn =>
    unfold cmpV at h
    simp only at h
    split at h
    · rename_i e
      cases Option.some.inj h
      refine op_notN pins s σ H x y v u Q I rx ry ⟨(own_none oy).mpr e, ?_⟩
      have e2 : (!decide (x = .non)) = (match sx.view with | .non => false | _ => true) := by
        have := own_none ox
        cases ev : sx.view with
        | non => simp [this.mpr ev]
        | _ => rw [decide_eq_false fun z => by have := this.mp z; rw [ev] at this; cases this]; rfl
      rw [e2]; exact q
    · cases h
  | _ => cases h
end

section
variable {g : G} {X : Cx}
theorem single_str (c : Nat) : strN [c] = ⟨#[c]⟩ := rfl
theorem own_int' {F H : Hp} {v : V} {s : SV} {fp : List Addr} {i : Int} (e : s.view = .int i) (h : OwnS g F H v s fp) : v = .int i := by
  match s, e, h with
  | .o (.fz d), e, h =>
    have e' : d = .int i := e
    subst e'
    exact own_int h
  | .o (.lst xs), e, h => exact nomatch (show D.lst xs = D.int i from e)
  | .o (.dct ks vs), e, h => exact nomatch (show D.dct ks vs = D.int i from e)
  | .o (.dcl ks vs), e, h => exact nomatch (show D.dct ks (vs.map .lst) = D.int i from e)
  | .ins c ns fs, e, h => exact nomatch (show D.ins c ns (fs.map OV.view) = D.int i from e)
theorem plains_all : ∀ (n : Nat) (xs : List D), plains n xs = true → plain (n + 1) (.lst xs) = true ∧ plain (n + 1) (.tup xs) = true := fun n xs h => ⟨by simpa [plain] using h, by simpa [plain] using h⟩
theorem any_py {n m : Nat} {x : D} : ∀ {ys : List D}, plain n x = true → plains m ys = true → (pys ys).any (fun y => PyData.eqv y (py x)) = inList x ys
  | [], _, _ => rfl
  | y :: ys, hx, hy => by
    have hy' : plain m y = true ∧ plains m ys = true := by simpa [plains] using hy
    simp only [pys, List.any_cons, inList]
    rw [eqD_py m n y x hy'.1 hx]
    have := any_py (ys := ys) hx hy'.2
    simp only [inList] at this
    rw [this]
theorem DF.of_dct {F H : Hp} {v : V} {ks ds : List D} {fp : List Addr} (sb : Sub F H) (h : OwnS g F H v (fz (.dct ks ds)) fp) : ∃ a es, v = .ref a ∧ Rd H a (dictHO a es) ∧ DF g F es ks ∧ Reps g F (es.map (·.2.2)) ds ∧ es.length ≤ sizeLine := by
  have r := own_fz h
  cases r with
  | dct h1 h2 h3 h4 h5 h6 h7 => exact ⟨_, _, rfl, sb.rd h1, ⟨h3, h5, h6, h7⟩, h4, h2⟩
theorem DF.of_own {F H : Hp} {v : V} {ks ds : List D} {fp : List Addr} (h : OwnS g F H v (.o (.dct ks ds)) fp) : ∃ a es, v = .ref a ∧ fp = [a] ∧ H a = some (dictHO a es) ∧ DF g F es ks ∧ Reps g F (es.map (·.2.2)) ds ∧ es.length ≤ sizeLine := by
  obtain ⟨a, es, e1, e2, e3, z, r1, r2, r3, r4, r5⟩ := h
  exact ⟨a, es, e1, e2, e3, ⟨r1, r3, r4, r5⟩, r2, z⟩
theorem DF.of_dcl {F H : Hp} {v : V} {ks : List D} {dss : List (List D)} {fp : List Addr} (h : OwnS g F H v (.o (.dcl ks dss)) fp) : ∃ a es as, v = .ref a ∧ fp = a :: as ∧ H a = some (dictHO a es) ∧ DF g F es ks ∧ es.map (·.2.2) = as.map V.ref ∧
    Paired (fun (b : Addr) (xs : List D) => ∃ vs, H b = some (.lst vs) ∧ vs.length ≤ sizeLine ∧ Reps g F vs xs) as dss ∧ es.length ≤ sizeLine := by
  obtain ⟨a, es, as, e1, e2, e3, z, r1, r2, r3, r4, r5, r6⟩ := h
  exact ⟨a, es, as, e1, e2, e3, ⟨r1, r4, r5, r6⟩, r2, r3, z⟩
/-- x in s, by both outcomes -/
theorem op_inS (st : Std g X) (neg : Bool) {F H : Hp} {pins : List (Addr × Obj)} {σ : L2.St} {s : Shared} {x y : V} {d : D} {sy : SV} {fy : List Addr} {v u : Value} {Q : VK} {b : Bool} (I : Inv X pins σ H s) (sb : Sub F H) (rx : RelV x v) (ry : RelV y u) (ox : Rep g F x d) (oy : OwnS g F H y sy fy)
    (h : inS d sy = some b) (q : Q (.bl (if neg then !b else b)) H) : wpAny (model X.prog X.w) X.A (compareOp (if neg then .NotIn else .In) v u) (EP X pins σ Q) X.xe s := by
  have hun := st.un
  have lists : ∀ {ys : List D} {a : Addr}, y = .ref a → Dp g.K H y (.list (pys ys)) → plain 60 d = true → plains 60 ys = true → b = inList d ys → wpAny (model X.prog X.w) X.A (compareOp (if neg then .NotIn else .In) v u) (EP X pins σ Q) X.xe s := fun {ys a} ey hd p1 p2 eb => by
    obtain ⟨as, r1⟩ := Rep.reads st I sb p1 ox rx
    obtain ⟨bs, r2⟩ := Dp.reads I _ y u (by rw [st.K]; exact hd) ry
    obtain ⟨q1, d1⟩ := plain_py 60 _ p1
    obtain ⟨q2, d2⟩ := plains_py 60 _ p2
    have hr : X.A.units + 1 + min (PyData.depthAll (pys ys)) (py d).depth < cLine := by have := Nat.min_le_right (PyData.depthAll (pys ys)) (py d).depth; omega
    cases neg with
    | false => exact SeqAt.in_list_data r2 r1 q2 q1 hr ⟨.bl _, H, I, rfl, by rw [any_py p1 p2, ← eb]; exact q⟩
    | true => exact SeqAt.notIn_list_data r2 r1 q2 q1 hr ⟨.bl _, H, I, rfl, by rw [any_py p1 p2, ← eb]; exact q⟩
  have dicts : ∀ {ks : List D} {a : Addr} {es : List Ent}, y = .ref a → Rd H a (dictHO a es) → DF g F es ks → keyOk ks d = true → b = hasK d ks → wpAny (model X.prog X.w) X.A (compareOp (if neg then .NotIn else .In) v u) (EP X pins σ Q) X.xe s := fun {ks a es} ey hd df hk eb => by
    subst ey
    cases ry
    cases neg with
    | false => exact e_in st (by omega) I sb hd df hk ox rx fun s' I' => ⟨.bl _, H, I', rfl, by rw [← eb]; exact q⟩
    | true => exact e_notIn st (by omega) I sb hd df hk ox rx fun s' I' => ⟨.bl _, H, I', rfl, by rw [← eb]; exact q⟩
  unfold inS at h
  split at h
  · rename_i ys
    split at h
    · rename_i c
      obtain ⟨c1, c2⟩ := Bool.and_eq_true_iff.mp c
      have dp : Dp g.K H y (.list (pys ys)) := Rep.dp sb 61 (.lst ys) y (plains_all 60 ys c2).1 (own_fz oy)
      have r := own_fz oy
      cases r with
      | lst h1 h2 h3 => exact lists rfl dp c1 c2 (Option.some.inj h).symm
    · cases h
  · rename_i ys
    split at h
    · rename_i c
      obtain ⟨c1, c2⟩ := Bool.and_eq_true_iff.mp c
      obtain ⟨a, vs, e1, _, e3, z, r⟩ := oy
      subst e1
      exact lists rfl (.lst (.inl (.inl e3)) (Reps.dp sb 60 ys vs c2 r)) c1 c2 (Option.some.inj h).symm
    · cases h
  · rename_i ys
    split at h
    · rename_i c
      obtain ⟨c1, c2⟩ := Bool.and_eq_true_iff.mp c
      have eb := (Option.some.inj h).symm
      obtain ⟨as, r1⟩ := Rep.reads st I sb c1 ox rx
      obtain ⟨bs, r2⟩ := Dp.reads I _ y u (by rw [st.K]; exact Rep.dp sb 61 (.tup ys) y (plains_all 60 ys c2).2 (own_fz oy)) ry
      obtain ⟨q1, d1⟩ := plain_py 60 _ c1
      obtain ⟨q2, d2⟩ := plains_py 60 _ c2
      have hr : X.A.units + 1 + min (PyData.depthAll (pys ys)) (py d).depth < cLine := by have := Nat.min_le_right (PyData.depthAll (pys ys)) (py d).depth; omega
      have r2' : Reads s.heap u (.tuple (pys ys)) bs := r2
      cases neg with
      | false => exact SeqAt.in_tuple_data r2' r1 q2 q1 hr ⟨.bl _, H, I, rfl, by rw [any_py c1 c2, ← eb]; exact q⟩
      | true => exact SeqAt.notIn_tuple_data r2' r1 q2 q1 hr ⟨.bl _, H, I, rfl, by rw [any_py c1 c2, ← eb]; exact q⟩
    · cases h
  · split at h
    · rename_i c
      obtain ⟨a, es, ey, hd, df, _⟩ := DF.of_dct sb oy
      exact dicts ey hd df c (Option.some.inj h).symm
    · cases h
  · split at h
    · rename_i c
      obtain ⟨a, es, ey, _, hd, df, _⟩ := DF.of_own oy
      exact dicts ey (.inl hd) df c (Option.some.inj h).symm
    · cases h
  · split at h
    · rename_i c
      obtain ⟨a, es, as, ey, _, hd, df, _⟩ := DF.of_dcl oy
      exact dicts ey (.inl hd) df c (Option.some.inj h).symm
    · cases h
  · rename_i z
    split at h
    · rename_i c
      have eb := (Option.some.inj h).symm
      obtain ⟨rfl, zl⟩ := own_str oy
      cases ox with
      | str _ z1 =>
        have e2 : decide (c ∈ (strN z).cps.toList) = z.contains c := by
          rw [Bool.eq_iff_iff, decide_eq_true_iff, List.contains_iff_mem]
          simp [strN]
        cases neg with
        | false => exact op_in_sign pins s σ H _ _ v u Q I rx ry ⟨c, strN z, rfl, rfl, by rw [e2, ← eb]; exact q⟩
        | true => exact op_notIn_sign pins s σ H _ _ v u Q I rx ry ⟨c, strN z, rfl, rfl, by rw [e2, ← eb]; exact q⟩
    · cases h
  · cases h
theorem own_fz? {F H : Hp} {v : V} {s : SV} {fp : List Addr} {d : D} (e : s.fz? = some d) (h : OwnS g F H v s fp) : Rep g F v d := by
  match s, e, h with
  | .o (.fz d'), e, h =>
    cases Option.some.inj e
    exact own_fz h
theorem op_cmpS (st : Std g X) (o : Cop) : OpR X (compareOp (copOf o)) (r2b g (cmpS o)) := by
  intro pins s σ H x y v u Q I rx ry h
  obtain ⟨F, sx, sy, fx, fy, b, sb, ox, oy, e, q⟩ := h
  have main : cmpD o sx.view sy.view = some b → wpAny (model X.prog X.w) X.A (compareOp (copOf o) v u) (EP X pins σ Q) X.xe s := fun e => by
    unfold cmpD at e
    split at e
    · rename_i i j e1 e2
      obtain rfl := own_int' e1 ox
      obtain rfl := own_int' e2 oy
      have : cmpI o i j = some b := by cases o <;> first | exact e | cases e
      exact op_cmpI o I rx ry this q
    · exact op_cmpV st o I sb rx ry ox oy e q
  cases o with
  | in_ =>
    have e : (match sx.fz? with | some x => inS x sy | none => none) = some b := e
    cases e0 : sx.fz? with
    | none => rw [e0] at e; cases e
    | some d =>
      rw [e0] at e
      exact op_inS st false I sb rx ry (own_fz? e0 ox) oy e q
  | nin =>
    have e : (match sx.fz? with | some x => (inS x sy).map (!·) | none => none) = some b := e
    cases e0 : sx.fz? with
    | none => rw [e0] at e; cases e
    | some d =>
      rw [e0] at e
      obtain ⟨c, e1, e2⟩ := Option.map_eq_some_iff.mp e
      exact op_inS st true I sb rx ry (own_fz? e0 ox) oy e1 (by rw [← e2] at q; exact q)
  | eq => exact main e
  | ne => exact main e
  | lt => exact main e
  | le => exact main e
  | gt => exact main e
  | ge => exact main e
  | is_ => exact main e
  | isn => exact main e
end
end Pd

end
section
set_option linter.all false
set_option autoImplicit false
set_option Elab.async false
set_option maxRecDepth 100000
/-! Pd.Ops3: subscripts, slices, attributes. -/
namespace Pd
open PySem PySem.Spec PyProof.Rows L2

theorem atI_eq {α : Type} (xs : List α) (i : Int) : Pd.atI xs i = L2.atI xs i := by
  unfold Pd.atI L2.atI ixN
  split
  · split
    · rfl
    · rename_i h1 h2
      simp only [Option.bind_none]
      exact List.getElem?_eq_none_iff.mpr (by omega)
  · split
    · rfl
    · rfl
section
variable {g : G} {F F' H H' : Hp}
theorem atI_reps {vs : List V} {ds : List D} {i : Int} {d : D} (h : Reps g F vs ds) (e : Pd.atI ds i = some d) : ∃ v, L2.atI vs i = some v ∧ Rep g F v d := by
  rw [← atI_eq]
  unfold Pd.atI at e ⊢
  rw [h.length]
  split at e
  · rename_i c
    rw [if_pos c]
    exact h.get e
  · rename_i c
    rw [if_neg c]
    split at e
    · rename_i c2
      rw [if_pos c2]
      exact h.get e
    · cases e
theorem getK_reps {k : D} : ∀ {ks : List D} {vs : List V} {ds : List D} {d : D}, Reps g F vs ds → getK k ks ds = some d → ∃ v, getK k ks vs = some v ∧ Rep g F v d
  | [], _, _, _, _, e => by simp [getK] at e
  | _ :: _, _, _, _, .nil, e => by simp [getK] at e
  | x :: ks, _, _, d, .cons (v := v) r t, e => by
    unfold getK at e ⊢
    split at e
    · rename_i c
      cases Option.some.inj e
      rw [if_pos c]
      exact ⟨v, rfl, r⟩
    · rename_i c
      rw [if_neg c]
      exact getK_reps t e
theorem getK_dcl {k : D} : ∀ {ks : List D} {as : List Addr} {dss : List (List D)} {xs : List D}, Paired (fun (b : Addr) (xs : List D) => ∃ vs, H b = some (.lst vs) ∧ vs.length ≤ sizeLine ∧ Reps g F vs xs) as dss → getK k ks dss = some xs →
    ∃ b vs, b ∈ as ∧ getK k ks (as.map V.ref) = some (.ref b) ∧ H b = some (.lst vs) ∧ vs.length ≤ sizeLine ∧ Reps g F vs xs
  | [], _, _, _, _, e => by simp [getK] at e
  | _ :: _, _, _, _, .nil, e => by simp [getK] at e
  | x :: ks, _, _, xs, .cons (a := b) (b := _) r t, e => by
    rw [List.map_cons]
    unfold getK at e ⊢
    split at e
    · rename_i c
      cases Option.some.inj e
      rw [if_pos c]
      obtain ⟨vs, h1, h2, h3⟩ := r
      exact ⟨b, vs, List.mem_cons_self, rfl, h1, h2, h3⟩
    · rename_i c
      rw [if_neg c]
      obtain ⟨b', vs, h0, h1⟩ := getK_dcl t e
      exact ⟨b', vs, List.mem_cons_of_mem _ h0, h1⟩
end

/-- x[k] -/
def rix (g : G) : R2 := fun x y H Q => ∃ F sx fx dy s, Sub F H ∧ OwnS g F H x sx fx ∧ (∀ a ∈ fx, F a = none) ∧ fx.Nodup ∧ Rep g F y dy ∧ idxS sx dy = some s ∧ PoE g F H false Q s
theorem ix_idxS {g : G} {X : Cx} (st : Std g X) : IxR X (rix g) := by
  intro value slice pins s σ H x y v u Q I rx ry h hs
  obtain ⟨F, sx, fx, dy, z, sb, ox, nx, nd, oy, e, q⟩ := h
  have hu := st.un
  have lists : ∀ {ds : List D} {vs : List V} {a : Addr} {k : Int}, x = .ref a → SqL X.K H a vs → Reps g F vs ds → y = .int k → (match Pd.atI ds k with | some d => some (fz d) | none => none) = some z → wpAny (model X.prog X.w) X.A (subscriptTail value slice v u) (EP X pins σ Q) X.xe s := fun {ds vs a k} ex hl hr ey e => by
    subst ex ey
    split at e
    · rename_i d ed
      cases Option.some.inj e
      obtain ⟨w', e1, r1⟩ := atI_reps hr ed
      exact ix_list value slice pins s σ H _ _ v u Q I rx ry ⟨a, vs, k, w', rfl, rfl, hl, e1, q.pure sb r1⟩ hs
    · cases e
  have dicts : ∀ {ks : List D} {a : Addr} {es : List Ent} {wv : V}, x = .ref a → Rd H a (dictHO a es) → DF g F es ks → keyOk ks dy = true → getK dy ks (es.map (·.2.2)) = some wv → Q wv H → wpAny (model X.prog X.w) X.A (subscriptTail value slice v u) (EP X pins σ Q) X.xe s := fun {ks a es wv} ex hd df hk hg hq => by
    subst ex
    cases rx
    have dt := dict_typeIs' (dict_at I hd)
    exact tail_any dt PySem.F.slot_dict_getitem.lookup (e_getItem st (by omega) I sb hd df hk oy ry hg fun w' s' I' rw' => ⟨wv, H, I', rw', hq⟩) hs
  unfold idxS at e
  split at e
  · rename_i ds
    split at e
    · rename_i k
      have r := own_fz ox
      cases r with
      | lst h1 h2 h3 =>
        cases oy
        exact lists rfl (.inl (.inl (sb.lst h1))) h3 rfl e
    · cases e
  · rename_i ds
    split at e
    · rename_i k
      obtain ⟨a, vs, e1, _, e3, _, r⟩ := ox
      cases oy
      exact lists e1 (.inl (.inl e3)) r rfl e
    · cases e
  · rename_i ds
    split at e
    · rename_i k
      obtain ⟨a, vs, e1, e3, _, r, _⟩ := own_tup sb ox
      cases oy
      subst e1
      split at e
      · rename_i d ed
        cases Option.some.inj e
        obtain ⟨w', e1, r1⟩ := atI_reps r ed
        exact ix_tup value slice pins s σ H _ _ v u Q I rx ry ⟨a, vs, k, w', rfl, rfl, by rw [st.K]; exact e3, e1, q.pure sb r1⟩ hs
      · cases e
    · cases e
  · rename_i cs
    split at e
    · rename_i k
      obtain ⟨rfl, zl⟩ := own_str ox
      cases oy
      split at e
      · rename_i c ec
        cases Option.some.inj e
        refine ix_str value slice pins s σ H _ _ v u Q I rx ry ⟨strN cs, k, c, rfl, rfl, by rw [strN_len]; exact zl, ?_, q.pure sb (.str [c] (by rw [sizeLine_eq]; simp))⟩ hs
        rw [← atI_eq]
        exact ec
      · cases e
    · cases e
  · split at e
    · rename_i c
      split at e
      · rename_i d ed
        cases Option.some.inj e
        obtain ⟨a, es, ex, hd, df, rv, _⟩ := DF.of_dct sb ox
        obtain ⟨w', e1, r1⟩ := getK_reps rv ed
        exact dicts ex hd df c e1 (q.pure sb r1)
      · cases e
    · cases e
  · split at e
    · rename_i c
      split at e
      · rename_i d ed
        cases Option.some.inj e
        obtain ⟨a, es, ex, _, hd, df, rv, _⟩ := DF.of_own ox
        obtain ⟨w', e1, r1⟩ := getK_reps rv ed
        exact dicts ex (.inl hd) df c e1 (q.pure sb r1)
      · cases e
    · cases e
  · split at e
    · rename_i c
      split at e
      · rename_i xs ed
        cases Option.some.inj e
        obtain ⟨a, es, as, ex, ef, hd, df, rv, pr, _⟩ := DF.of_dcl ox
        obtain ⟨b, vs, hb, e1, h1, h2, h3⟩ := getK_dcl pr ed
        subst ef
        refine dicts ex (.inl hd) df c (by rw [rv]; exact e1) (q (.ref b) F H [b] (Grow.refl sb) ⟨b, vs, rfl, rfl, h1, h2, h3⟩ (fun z => nomatch z) (fun a' ha => ?_) (by simp))
        cases List.mem_singleton.mp ha
        exact nx _ (List.mem_cons_of_mem _ hb)
      · cases e
    · cases e
  · cases e

theorem cut_len {α : Type} (xs : List α) (lo hi : Option Int) : (cut xs lo hi).length ≤ xs.length := by
  unfold cut
  rw [List.length_take, List.length_drop]
  omega
theorem sIx_eq (n d : Nat) (o : Option Int) : Pd.sIx n d o = HT.sIx n d o := by
  cases o with
  | none => rfl
  | some v => rfl
theorem cut_reps {g : G} {F : Hp} {vs : List V} {ds : List D} (h : Reps g F vs ds) (lo hi : Option Int) : Reps g F (cutV vs lo hi) (cut ds lo hi) := by
  unfold cutV cut
  rw [← sIx_eq, ← sIx_eq, h.length]
  exact (h.drop _).take _
theorem cut_all {α : Type} (xs : List α) (lo hi : Option Int) (h : HT.sIx xs.length 0 lo = 0 ∧ HT.sIx xs.length xs.length hi = xs.length) : cut xs lo hi = xs := by
  unfold cut
  rw [sIx_eq, sIx_eq, h.1, h.2]
  simp
theorem cutV_map {α : Type} (f : α → V) (xs : List α) (lo hi : Option Int) : cutV (xs.map f) lo hi = (cut xs lo hi).map f := by
  unfold cutV cut
  rw [sIx_eq, sIx_eq, List.length_map, List.map_take, List.map_drop]
theorem ints_reps {g : G} {F : Hp} : ∀ xs : List Int, Reps g F (xs.map V.int) (xs.map D.int)
  | [] => .nil
  | x :: xs => .cons (.int x) (ints_reps xs)
/-- x[lo:hi] -/
def rsl (g : G) : V → Option Int → Option Int → Hp → VK → Prop := fun x lo hi H Q => ∃ F sx fx s, Sub F H ∧ OwnS g F H x sx fx ∧ cutS sx lo hi = some s ∧ PoE g F H true Q s
theorem sl_cutS {g : G} {X : Cx} (st : Std g X) : SlR X (rsl g) := by
  intro pins s σ H x v vl vu lo hi sl Q I rx hs pl pu h
  obtain ⟨F, sx, fx, z, sb, ox, e, q⟩ := h
  have lists : ∀ {ds : List D} {vs : List V} {a : Addr}, x = .ref a → SqL X.K H a vs → vs.length ≤ sizeLine → Reps g F vs ds → z = oL (cut ds lo hi) → ∃ T id, typeLookup (.type T) "__getitem__" = pure (some (.builtin id)) ∧ s.TypeIs v T ∧ wpAny (model X.prog X.w) X.A (getItem v (.ref sl)) (EP X pins σ Q) X.xe s := fun {ds vs a} ex hl hz hr ez => by
    subst ex ez
    exact sl_list pins s σ H _ v vl vu lo hi sl Q I rx hs pl pu ⟨a, vs, rfl, hl, fun p hp => q.newL sb hp (cut_reps hr lo hi) (Nat.le_trans (cutV_length vs lo hi) hz)⟩
  unfold cutS at e
  split at e
  · rename_i ds
    have r := own_fz ox
    cases r with
    | lst h1 h2 h3 => exact lists rfl (.inl (.inl (sb.lst h1))) h2 h3 (Option.some.inj e).symm
  · rename_i ds
    obtain ⟨a, vs, e1, _, e3, hz, r⟩ := ox
    exact lists e1 (.inl (.inl e3)) hz r (Option.some.inj e).symm
  · rename_i ds
    cases Option.some.inj e
    obtain ⟨a, vs, rfl, e3, hz, r, _⟩ := own_tup sb ox
    refine sl_tupA pins s σ H _ v vl vu lo hi sl Q I rx hs pl pu ⟨a, vs, rfl, by rw [st.K]; exact e3, fun hw => ?_, fun hw p hp => q.newT sb hp (cut_reps r lo hi) (Nat.le_trans (cutV_length vs lo hi) hz)⟩
    rw [cut_all ds lo hi (by rw [← r.length]; exact hw)] at q
    exact q.pure sb (own_fz ox)
  · rename_i z
    cases Option.some.inj e
    obtain ⟨rfl, zl⟩ := own_str ox
    refine sl_str pins s σ H _ v vl vu lo hi sl Q I rx hs pl pu ⟨strN z, rfl, by rw [strN_len]; exact zl, ?_⟩
    have e2 : L2.cutS (strN z) lo hi = strN (cut z lo hi) := by
      unfold L2.cutS cut strN
      rw [sIx_eq, sIx_eq]
      simp [Str.length]
    rw [e2]
    exact q.pure sb (.str _ (Nat.le_trans (cut_len z lo hi) zl))
  · rename_i xs
    have r := own_fz ox
    cases r with
    | @scr a0 _ h1 h2 =>
      have h1' : SqL X.K H a0 (xs.map V.int) := by rw [st.K]; exact sb.sqL (g := g) h1
      refine lists rfl h1' (by rw [List.length_map]; exact h2) (ints_reps xs) (Option.some.inj e).symm
  · cases e
theorem lookF_reps {g : G} {F : Hp} {f : Nat} : ∀ {gs : List (Str × V)} {ns : List Nat} {ds : List D} {d : D}, (∀ j, g.p.fld f = g.p.fld j → f = j) → gs.map (·.1) = ns.map g.p.fld → Reps g F (gs.map (·.2)) ds → lookF f ns ds = some d → ∃ v, gs.lookup (g.p.fld f) = some v ∧ Rep g F v d
  | [], [], _, _, _, _, _, e => by simp [lookF] at e
  | _ :: _, [], _, _, _, h, _, _ => by simp at h
  | [], _ :: _, _, _, _, h, _, _ => by simp at h
  | (x, v) :: gs, n :: ns, ds, d, inj, h, r, e => by
    simp only [List.map_cons, List.cons.injEq] at h
    cases r with
    | cons r1 r2 =>
      unfold lookF at e
      split at e
      · rename_i c
        subst c
        cases Option.some.inj e
        exact ⟨v, by rw [List.lookup_cons, h.1]; simp, r1⟩
      · rename_i c
        obtain ⟨w', e1, r'⟩ := lookF_reps inj h.2 r2 e
        refine ⟨w', ?_, r'⟩
        rw [List.lookup_cons, h.1]
        have : (g.p.fld f == g.p.fld n) = false := beq_eq_false_iff_ne.mpr fun z => c (inj _ z).symm
        rw [this]
        exact e1
theorem lookF_owns {g : G} {F H : Hp} {f : Nat} : ∀ {gs : List (Str × V)} {ns : List Nat} {xs : List OV} {fps : List (List Addr)} {x : OV}, (∀ j, g.p.fld f = g.p.fld j → f = j) → gs.map (·.1) = ns.map g.p.fld → OwnOs g F H (gs.map (·.2)) xs fps → lookF f ns xs = some x → ∃ v fp, gs.lookup (g.p.fld f) = some v ∧ OwnO g F H v x fp ∧ fp ∈ fps
  | [], [], _, _, _, _, _, _, e => by simp [lookF] at e
  | _ :: _, [], _, _, _, _, h, _, _ => by simp at h
  | [], _ :: _, _, _, _, _, h, _, _ => by simp at h
  | (y, v) :: gs, n :: ns, xs, fps, x, inj, h, r, e => by
    simp only [List.map_cons, List.cons.injEq] at h
    cases r with
    | cons r1 r2 =>
      unfold lookF at e
      split at e
      · rename_i c
        subst c
        cases Option.some.inj e
        exact ⟨v, _, by rw [List.lookup_cons, h.1]; simp, r1, List.mem_cons_self⟩
      · rename_i c
        obtain ⟨w', fp, e1, r', m⟩ := lookF_owns inj h.2 r2 e
        refine ⟨w', fp, ?_, r', List.mem_cons_of_mem _ m⟩
        rw [List.lookup_cons, h.1]
        have : (g.p.fld f == g.p.fld n) = false := beq_eq_false_iff_ne.mpr fun z => c (inj _ z).symm
        rw [this]
        exact e1
end Pd

end
section
set_option linter.all false
set_option autoImplicit false
set_option Elab.async false
/-! Pd.Ord: the order of alike values; what sorted gives. -/
namespace Pd
mutual
theorem eqD_eq : ∀ (x y : D), alk x y = true → eqD x y = true → x = y
  | .non, y, h, e => by cases y <;> simp_all [alk]
  | .bl a, y, h, e => by cases y <;> simp_all [alk, eqD]
  | .int a, y, h, e => by cases y <;> simp_all [alk, eqD]
  | .str a, y, h, e => by cases y <;> simp_all [alk, eqD]
  | .tup xs, y, h, e => by
    cases y <;> simp [alk] at h
    simp only [eqD] at e
    rw [eqDs_eq xs _ h e]
  | .lst xs, y, h, e => by
    cases y <;> simp [alk] at h
    simp only [eqD] at e
    rw [eqDs_eq xs _ h e]
  | .dct _ _, y, h, e => by cases y <;> simp [alk] at h
  | .ins _ _ _, y, h, e => by cases y <;> simp [alk] at h
  | .scr _, y, h, e => by cases y <;> simp [alk] at h
theorem eqDs_eq : ∀ (xs ys : List D), alks xs ys = true → eqDs xs ys = true → xs = ys
  | [], ys, h, e => by cases ys <;> simp_all [eqDs]
  | x :: xs, ys, h, e => by
    cases ys with
    | nil => simp [eqDs] at e
    | cons y ys =>
      simp only [alks, Bool.and_eq_true] at h
      simp only [eqDs, Bool.and_eq_true] at e
      rw [eqD_eq x y h.1 e.1, eqDs_eq xs ys h.2 e.2]
end
mutual
theorem eqD_self : ∀ (x : D), alk x x = true → eqD x x = true
  | .non, h => rfl
  | .bl a, h => by simp [eqD]
  | .int a, h => by simp [eqD]
  | .str a, h => by simp [eqD]
  | .tup xs, h => by simp only [eqD]; exact eqDs_self xs (by simpa [alk] using h)
  | .lst xs, h => by simp only [eqD]; exact eqDs_self xs (by simpa [alk] using h)
  | .dct _ _, h => by simp [alk] at h
  | .ins _ _ _, h => by simp [alk] at h
  | .scr _, h => by simp [alk] at h
theorem eqDs_self : ∀ (xs : List D), alks xs xs = true → eqDs xs xs = true
  | [], h => rfl
  | x :: xs, h => by
    simp only [alks, Bool.and_eq_true] at h
    simp only [eqDs, Bool.and_eq_true]
    exact ⟨eqD_self x h.1, eqDs_self xs h.2⟩
end
mutual
theorem alk_symm : ∀ (x y : D), alk x y = true → alk y x = true
  | .non, y, h => by cases y <;> simp_all [alk]
  | .bl a, y, h => by cases y <;> simp_all [alk]
  | .int a, y, h => by cases y <;> simp_all [alk]
  | .str a, y, h => by cases y <;> simp_all [alk]
  | .tup xs, y, h => by
    cases y <;> simp [alk] at h
    simp only [alk]
    exact alks_symm xs _ h
  | .lst xs, y, h => by
    cases y <;> simp [alk] at h
    simp only [alk]
    exact alks_symm xs _ h
  | .dct _ _, y, h => by cases y <;> simp [alk] at h
  | .ins _ _ _, y, h => by cases y <;> simp [alk] at h
  | .scr _, y, h => by cases y <;> simp [alk] at h
theorem alks_symm : ∀ (xs ys : List D), alks xs ys = true → alks ys xs = true
  | [], ys, h => by cases ys <;> simp [alks]
  | x :: xs, ys, h => by
    cases ys with
    | nil => simp [alks]
    | cons y ys =>
      simp only [alks, Bool.and_eq_true] at h ⊢
      exact ⟨alk_symm x y h.1, alks_symm xs ys h.2⟩
end
mutual
theorem alk_left : ∀ (x y : D), alk x y = true → eqD x y = true → alk x x = true
  | .non, y, h, e => rfl
  | .bl a, y, h, e => rfl
  | .int a, y, h, e => rfl
  | .str a, y, h, e => rfl
  | .tup xs, y, h, e => by
    cases y <;> simp [alk] at h
    simp only [eqD] at e
    simp only [alk]
    exact alks_left xs _ h e
  | .lst xs, y, h, e => by
    cases y <;> simp [alk] at h
    simp only [eqD] at e
    simp only [alk]
    exact alks_left xs _ h e
  | .dct _ _, y, h, e => by cases y <;> simp [alk] at h
  | .ins _ _ _, y, h, e => by cases y <;> simp [alk] at h
  | .scr _, y, h, e => by cases y <;> simp [alk] at h
theorem alks_left : ∀ (xs ys : List D), alks xs ys = true → eqDs xs ys = true → alks xs xs = true
  | [], ys, h, e => rfl
  | x :: xs, ys, h, e => by
    cases ys with
    | nil => simp [eqDs] at e
    | cons y ys =>
      simp only [alks, Bool.and_eq_true] at h ⊢
      simp only [eqDs, Bool.and_eq_true] at e
      exact ⟨alk_left x y h.1 e.1, alks_left xs ys h.2 e.2⟩
end
theorem eqD_iff {x y : D} (h : alk x y = true) : eqD x y = true ↔ x = y ∧ alk x x = true :=
  ⟨fun e => ⟨eqD_eq x y h e, alk_left x y h e⟩, fun ⟨e, s⟩ => by rw [← e]; exact eqD_self x s⟩
theorem eqD_symm {x y : D} (h : alk x y = true) (e : eqD x y = true) : eqD y x = true := by
  obtain ⟨rfl, s⟩ := (eqD_iff h).mp e
  exact e
mutual
theorem ltD_asymm : ∀ (x y : D), alk x y = true → ltD x y = true → ltD y x = false
  | .non, y, h, e => by cases y <;> simp_all [ltD, alk]
  | .bl a, y, h, e => by cases y <;> simp_all [ltD, alk]
  | .int a, y, h, e => by cases y <;> simp_all [ltD, alk]; omega
  | .str a, y, h, e => by
    cases y <;> simp_all [ltD, alk]
    rename_i b
    exact List.le_of_lt e
  | .tup xs, y, h, e => by
    cases y <;> simp [alk] at h
    simp only [ltD] at e ⊢
    exact ltDs_asymm xs _ h e
  | .lst xs, y, h, e => by
    cases y <;> simp [alk] at h
    simp only [ltD] at e ⊢
    exact ltDs_asymm xs _ h e
  | .dct _ _, y, h, e => by cases y <;> simp [alk] at h
  | .ins _ _ _, y, h, e => by cases y <;> simp [alk] at h
  | .scr _, y, h, e => by cases y <;> simp [alk] at h
theorem ltDs_asymm : ∀ (xs ys : List D), alks xs ys = true → ltDs xs ys = true → ltDs ys xs = false
  | [], ys, h, e => by cases ys <;> simp_all [ltDs]
  | x :: xs, ys, h, e => by
    cases ys with
    | nil => simp [ltDs] at e
    | cons y ys =>
      simp only [alks, Bool.and_eq_true] at h
      simp only [ltDs] at e ⊢
      by_cases q : eqD x y = true
      · rw [if_pos (eqD_symm h.1 q)]
        rw [if_pos q] at e
        exact ltDs_asymm xs ys h.2 e
      · rw [if_neg q] at e
        rw [if_neg fun c => q (eqD_symm (alk_symm _ _ h.1) c)]
        exact ltD_asymm x y h.1 e
end
mutual
theorem ltD_tri : ∀ (x y : D), alk x y = true → ltD x y = false → ltD y x = false → eqD x y = true
  | .non, y, h, e, f => by cases y <;> simp_all [ltD, alk, eqD]
  | .bl a, y, h, e, f => by cases y <;> simp_all [ltD, alk, eqD]; rename_i b; cases a <;> cases b <;> simp_all
  | .int a, y, h, e, f => by cases y <;> simp_all [ltD, alk, eqD]; omega
  | .str a, y, h, e, f => by
    cases y <;> simp_all [ltD, alk, eqD]
    rename_i b
    exact List.le_antisymm f e
  | .tup xs, y, h, e, f => by
    cases y <;> simp [alk] at h
    simp only [ltD, eqD] at e f ⊢
    exact ltDs_tri xs _ h e f
  | .lst xs, y, h, e, f => by
    cases y <;> simp [alk] at h
    simp only [ltD, eqD] at e f ⊢
    exact ltDs_tri xs _ h e f
  | .dct _ _, y, h, e, f => by cases y <;> simp [alk] at h
  | .ins _ _ _, y, h, e, f => by cases y <;> simp [alk] at h
  | .scr _, y, h, e, f => by cases y <;> simp [alk] at h
theorem ltDs_tri : ∀ (xs ys : List D), alks xs ys = true → ltDs xs ys = false → ltDs ys xs = false → eqDs xs ys = true
  | [], ys, h, e, f => by cases ys <;> simp_all [ltDs, eqDs]
  | x :: xs, ys, h, e, f => by
    cases ys with
    | nil => simp [ltDs] at f
    | cons y ys =>
      simp only [alks, Bool.and_eq_true] at h
      simp only [ltDs] at e f
      by_cases q : eqD x y = true
      · rw [if_pos (eqD_symm h.1 q)] at f
        rw [if_pos q] at e
        simp only [eqDs, Bool.and_eq_true]
        exact ⟨q, ltDs_tri xs ys h.2 e f⟩
      · rw [if_neg q] at e
        rw [if_neg fun c => q (eqD_symm (alk_symm _ _ h.1) c)] at f
        exact absurd (ltD_tri x y h.1 e f) q
end
mutual
theorem ltD_trans : ∀ (x y z : D), alk x y = true → alk y z = true → alk x z = true → ltD x y = true → ltD y z = true → ltD x z = true
  | .non, y, z, h, i, j, e, f => by cases y <;> simp_all [ltD, alk]
  | .bl a, y, z, h, i, j, e, f => by
    cases y <;> first | (exfalso; revert h; simp [alk]; done) | skip
    rename_i b
    cases z <;> first | (exfalso; revert i; simp [alk]; done) | skip
    rename_i c
    cases a <;> cases b <;> cases c <;> first | rfl | (exfalso; revert e; simp [ltD]; done) | (exfalso; revert f; simp [ltD]; done)
  | .int a, y, z, h, i, j, e, f => by
    cases y <;> first | (exfalso; revert h; simp [alk]; done) | skip
    cases z <;> first | (exfalso; revert i; simp [alk]; done) | skip
    simp only [ltD, decide_eq_true_eq] at e f ⊢
    omega
  | .str a, y, z, h, i, j, e, f => by
    cases y <;> first | (exfalso; revert h; simp [alk]; done) | skip
    cases z <;> first | (exfalso; revert i; simp [alk]; done) | skip
    simp only [ltD, decide_eq_true_eq] at e f ⊢
    exact List.lt_trans e f
  | .tup xs, y, z, h, i, j, e, f => by
    cases y <;> simp [alk] at h
    cases z <;> simp [alk] at i
    simp only [alk] at j
    simp only [ltD] at e f ⊢
    exact ltDs_trans xs _ _ h i j e f
  | .lst xs, y, z, h, i, j, e, f => by
    cases y <;> simp [alk] at h
    cases z <;> simp [alk] at i
    simp only [alk] at j
    simp only [ltD] at e f ⊢
    exact ltDs_trans xs _ _ h i j e f
  | .dct _ _, y, z, h, i, j, e, f => by cases y <;> simp [alk] at h
  | .ins _ _ _, y, z, h, i, j, e, f => by cases y <;> simp [alk] at h
  | .scr _, y, z, h, i, j, e, f => by cases y <;> simp [alk] at h
theorem ltDs_trans : ∀ (xs ys zs : List D), alks xs ys = true → alks ys zs = true → alks xs zs = true → ltDs xs ys = true → ltDs ys zs = true → ltDs xs zs = true
  | [], ys, zs, h, i, j, e, f => by
    cases ys with
    | nil => simp [ltDs] at e
    | cons y ys => cases zs with
      | nil => simp [ltDs] at f
      | cons z zs => rfl
  | x :: xs, ys, zs, h, i, j, e, f => by
    cases ys with
    | nil => simp [ltDs] at e
    | cons y ys => cases zs with
      | nil => simp [ltDs] at f
      | cons z zs =>
        simp only [alks, Bool.and_eq_true] at h i j
        simp only [ltDs] at e f ⊢
        by_cases q : eqD x y = true
        · rw [if_pos q] at e
          obtain ⟨rfl, s⟩ := (eqD_iff h.1).mp q
          by_cases r : eqD x z = true
          · rw [if_pos r] at f ⊢
            exact ltDs_trans xs ys zs h.2 i.2 j.2 e f
          · rw [if_neg r] at f ⊢
            exact f
        · rw [if_neg q] at e
          by_cases r : eqD y z = true
          · rw [if_pos r] at f
            obtain ⟨rfl, s⟩ := (eqD_iff i.1).mp r
            rw [if_neg q]
            exact e
          · rw [if_neg r] at f
            have t := ltD_trans x y z h.1 i.1 j.1 e f
            by_cases u : eqD x z = true
            · obtain ⟨rfl, s⟩ := (eqD_iff j.1).mp u
              rw [ltD_asymm x y h.1 e] at f
              exact absurd f (by simp)
            · rw [if_neg u]
              exact t
end
theorem leD_trans {x y z : D} (h : alk x y = true) (i : alk y z = true) (j : alk x z = true) (e : leD x y = true) (f : leD y z = true) : leD x z = true := by
  unfold leD at *
  rw [Bool.not_eq_true'] at *
  by_cases q : ltD x y = true
  · by_cases r : ltD y z = true
    · exact ltD_asymm _ _ j (ltD_trans x y z h i j q r)
    · have := ltD_tri y z i (by simpa using r) f
      obtain ⟨rfl, s⟩ := (eqD_iff i).mp this
      exact e
  · have := ltD_tri x y h (by simpa using q) e
    obtain ⟨rfl, s⟩ := (eqD_iff h).mp this
    exact f
theorem leD_total {x y : D} (h : alk x y = true) : leD x y = true ∨ leD y x = true := by
  unfold leD
  rw [Bool.not_eq_true', Bool.not_eq_true']
  by_cases q : ltD y x = true
  · exact .inr (ltD_asymm _ _ (alk_symm _ _ h) q)
  · exact .inl (by simpa using q)
theorem leD_antisymm {x y : D} (h : alk x y = true) (e : leD x y = true) (f : leD y x = true) : x = y := by
  unfold leD at *
  rw [Bool.not_eq_true'] at *
  exact eqD_eq _ _ h (ltD_tri x y h f e)
theorem allAlk_iff {xs : List D} : allAlk xs = true ↔ ∀ x ∈ xs, ∀ y ∈ xs, alk x y = true := by
  unfold allAlk
  rw [List.all_eq_true]
  exact ⟨fun h x hx y hy => List.all_eq_true.mp (h x hx) y hy, fun h x hx => List.all_eq_true.mpr (h x hx)⟩
theorem insD_perm (x : D) : ∀ ys : List D, (insD x ys).Perm (x :: ys)
  | [] => List.Perm.refl _
  | y :: ys => by
    unfold insD
    split
    · exact List.Perm.refl _
    · exact ((insD_perm x ys).cons y).trans (List.Perm.swap x y ys)
theorem sortD_perm : ∀ xs : List D, (sortD xs).Perm xs
  | [] => List.Perm.refl _
  | x :: xs => (insD_perm x (sortD xs)).trans ((sortD_perm xs).cons x)
theorem mem_sortD {xs : List D} {x : D} : x ∈ sortD xs ↔ x ∈ xs := (sortD_perm xs).mem_iff
theorem length_sortD (xs : List D) : (sortD xs).length = xs.length := (sortD_perm xs).length_eq
theorem insD_le {x : D} : ∀ {ys : List D}, (∀ y ∈ x :: ys, ∀ z ∈ x :: ys, alk y z = true) → (ys.Pairwise fun a b => leD a b = true) → (insD x ys).Pairwise fun a b => leD a b = true
  | [], _, _ => List.pairwise_singleton _ _
  | y :: ys, h, p => by
    have hx : x ∈ x :: y :: ys := List.mem_cons_self
    have hy : y ∈ x :: y :: ys := List.mem_cons_of_mem _ List.mem_cons_self
    rw [List.pairwise_cons] at p
    unfold insD
    split
    · rename_i c
      refine List.pairwise_cons.mpr ⟨fun z hz => ?_, List.pairwise_cons.mpr p⟩
      rcases List.mem_cons.mp hz with rfl | hz
      · exact c
      · have hz' : z ∈ x :: y :: ys := List.mem_cons_of_mem _ (List.mem_cons_of_mem _ hz)
        exact leD_trans (h _ hx _ hy) (h _ hy _ hz') (h _ hx _ hz') c (p.1 z hz)
    · rename_i c
      refine List.pairwise_cons.mpr ⟨fun z hz => ?_, insD_le (fun a ha b hb => h a ?_ b ?_) p.2⟩
      · rcases List.mem_cons.mp ((insD_perm x ys).mem_iff.mp hz) with rfl | hz
        · exact (leD_total (h _ hx _ hy)).resolve_left c
        · exact p.1 z hz
      · rcases List.mem_cons.mp ha with rfl | ha
        · exact List.mem_cons_self
        · exact List.mem_cons_of_mem _ (List.mem_cons_of_mem _ ha)
      · rcases List.mem_cons.mp hb with rfl | hb
        · exact List.mem_cons_self
        · exact List.mem_cons_of_mem _ (List.mem_cons_of_mem _ hb)
theorem sortD_le : ∀ {xs : List D}, (∀ x ∈ xs, ∀ y ∈ xs, alk x y = true) → (sortD xs).Pairwise fun a b => leD a b = true
  | [], _ => List.Pairwise.nil
  | x :: xs, h => insD_le (fun a ha b hb => h a (by
      rcases List.mem_cons.mp ha with rfl | ha
      · exact List.mem_cons_self
      · exact List.mem_cons_of_mem _ ((sortD_perm xs).mem_iff.mp ha)) b (by
      rcases List.mem_cons.mp hb with rfl | hb
      · exact List.mem_cons_self
      · exact List.mem_cons_of_mem _ ((sortD_perm xs).mem_iff.mp hb))) (sortD_le fun a ha b hb => h a (List.mem_cons_of_mem _ ha) b (List.mem_cons_of_mem _ hb))
theorem mergeSort_leD {xs : List D} (h : ∀ x ∈ xs, ∀ y ∈ xs, alk x y = true) : (xs.mergeSort leD).Pairwise fun a b => leD a b = true := by
  let r : {x // x ∈ xs} → {x // x ∈ xs} → Bool := fun a b => leD a.1 b.1
  have p := List.pairwise_mergeSort (le := r) (fun a b c e f => leD_trans (h _ a.2 _ b.2) (h _ b.2 _ c.2) (h _ a.2 _ c.2) e f) (fun a b => by
    rw [Bool.or_eq_true]
    exact leD_total (h _ a.2 _ b.2)) xs.attach
  have e : xs.mergeSort leD = (xs.attach.mergeSort r).map Subtype.val := by
    rw [List.map_mergeSort (s := leD) (fun a _ b _ => rfl), List.attach_map_subtype_val]
  rw [e, List.pairwise_map]
  exact p
theorem mergeSort_sortD {xs : List D} (h : ∀ x ∈ xs, ∀ y ∈ xs, alk x y = true) : xs.mergeSort leD = sortD xs :=
  ((List.mergeSort_perm xs leD).trans (sortD_perm xs).symm).eq_of_pairwise (fun a b ha hb e f => leD_antisymm (h a ((List.mergeSort_perm xs leD).mem_iff.mp ha) b (mem_sortD.mp hb)) e f) (mergeSort_leD h) (sortD_le h)
/-- there is but one order -/
theorem sortD_eq {xs ys : List D} (h : ∀ x ∈ ys, ∀ y ∈ ys, alk x y = true) (p : xs.Perm ys) (s : ys.Pairwise fun a b => leD a b = true) : sortD xs = ys := by
  have h' : ∀ x ∈ xs, ∀ y ∈ xs, alk x y = true := fun x hx y hy => h x (p.mem_iff.mp hx) y (p.mem_iff.mp hy)
  exact ((sortD_perm xs).trans p).eq_of_pairwise (fun a b ha hb e f => leD_antisymm (h' a (mem_sortD.mp ha) b (p.mem_iff.mpr hb)) e f) (sortD_le h') s
theorem sortD_congr {xs ys : List D} (h : ∀ x ∈ ys, ∀ y ∈ ys, alk x y = true) (p : xs.Perm ys) : sortD xs = sortD ys :=
  sortD_eq (fun x hx y hy => h x (mem_sortD.mp hx) y (mem_sortD.mp hy)) (p.trans (sortD_perm ys).symm) (sortD_le h)
theorem sortOk_iff {xs : List D} : sortOk xs = true ↔ (∀ x ∈ xs, ∀ y ∈ xs, alk x y = true) ∧ ((∀ x ∈ xs, isTup1 x = true) ∨ ∀ x ∈ xs, notTup x = true) ∧ ∀ x ∈ xs, plain 60 x = true := by
  unfold sortOk
  rw [Bool.and_eq_true, Bool.and_eq_true, Bool.or_eq_true, allAlk_iff, List.all_eq_true, List.all_eq_true, List.all_eq_true, and_assoc]
theorem inList_iff {x : D} {ys : List D} (h : ∀ y ∈ ys, alk y x = true) : inList x ys = true ↔ x ∈ ys ∧ alk x x = true := by
  unfold inList
  rw [List.any_eq_true]
  constructor
  · rintro ⟨y, hy, e⟩
    obtain ⟨rfl, s⟩ := (eqD_iff (h y hy)).mp e
    exact ⟨hy, s⟩
  · rintro ⟨hx, s⟩
    exact ⟨x, hx, eqD_self x s⟩
end Pd

end
section
set_option linter.all false
set_option autoImplicit false
set_option Elab.async false
set_option maxRecDepth 100000
/-! Pd.Ops4: built-in functions. -/
namespace Pd
open PySem PySem.Spec PyProof.Rows L2

inductive OwnSs (g : G) (F H : Hp) : List V → List SV → Prop
  | nil : OwnSs g F H [] []
  | cons {v : V} {s : SV} {fp : List Addr} {vs : List V} {ss : List SV} : OwnS g F H v s fp → OwnSs g F H vs ss → OwnSs g F H (v :: vs) (s :: ss)
theorem OwnSs.grow {g : G} {F H F' H' : Hp} (sb : Sub F H) (x : Grow F H F' H') : ∀ {vs : List V} {ss : List SV}, OwnSs g F H vs ss → OwnSs g F' H' vs ss
  | _, _, .nil => .nil
  | _, _, .cons h t => .cons (h.grow sb x) (OwnSs.grow sb x t)
/-! ### sorted -/
section
variable {prog : Program} {w : World} {A : Around} {E : Value → Shared → Prop} {s : Shared}
theorem collect_tup {l : Addr} {vs : List Value} {Q : List Value → Shared → Prop} (hl : IsTup s.heap l vs.toArray)
    (h : ∀ h' : Heap, (∀ b o, s.heap.get? b = some o → h'.get? b = some o) → Q vs { s with heap := h' }) (hsz : vs.length ≤ sizeLine) :
    wpAny (model prog w) A (collect (.ref l)) Q E s := by
  obtain ⟨o, ho, hc, n, hd⟩ := id hl
  unfold collect
  refine wpAny_bind (wpAny_runValue (codeAny_builtin entry_proto_collect' ?_))
  show wpAny _ _ (do again (.builtin "list.__iadd__" ⟨[← newList [], .ref l], []⟩)) _ _ s
  refine wpAny_bind (wpAny_newList (wpAny_pure ⟨Code.quiet_builtin _ (by decide +kernel), codeAny_builtin entry_list_iadd' ?_⟩))
  show wpAny _ _ (Builtin.List.listExtendWith (.ref s.heap.objs.size) (.ref l) (.ref s.heap.objs.size)) _ _ { s with heap := s.heap.push (seqObj "list" #[] 0) }
  unfold Builtin.List.listExtendWith
  have ho' : (s.heap.push (seqObj "list" #[] 0)).get? l = some o := Heap.get?_push_of_some _ ho
  refine wpAny_bind (wpAny_typeOf (T := "tuple") ⟨o, ho', hc⟩ ?_)
  have ht : (Value.type "tuple" == Value.type "tuple") = true := by rfl
  rw [if_pos (by rw [ht]; simp)]
  refine wpAny_bind (listItems_at ho' hd ?_)
  refine wpAny_bind (listItems_at (xs := #[]) (n := 0) (Heap.get?_push_size _ rfl) rfl ?_)
  rw [if_neg (by simp)]
  refine wpAny_bind (listUpdate_at (xs := #[]) (n := 0) (Heap.get?_push_size _ rfl) rfl ?_ (Nat.zero_le _) (by show (#[] ++ vs.toArray).size ≤ sizeLine + 1; simp only [Array.size_append, List.size_toArray, List.length_nil]; omega))
  refine wpAny_pure ?_
  show wpAny (model prog w) A (do
      let o ← load s.heap.objs.size
      match o.data with
      | .seq xs _ => pure xs.toList
      | _ => unsupported "internal:collect") Q E { s with heap := (s.heap.push (seqObj "list" #[] 0)).update s.heap.objs.size (Obj.mapSeq (· ++ vs.toArray)) }
  refine wpAny_bind (wpAny_load (get?_update_seq (Heap.get?_push_size _ rfl) _) ?_)
  show wpAny _ _ (pure ((#[] : Array Value) ++ vs.toArray).toList) Q E _
  rw [show ((#[] : Array Value) ++ vs.toArray).toList = vs by simp]
  refine wpAny_pure (h _ fun b o q => ?_)
  have hlt : b < s.heap.objs.size := Heap.lt_size q
  rw [Heap.get?_update_ne _ _ _ _ (Nat.ne_of_lt hlt), Heap.get?_push_ne _ _ _ (Nat.ne_of_lt hlt)]
  exact q
/-- sorted(x) where x's items are collected -/
theorem sorted_via {β : Type} {enc : β → PyData} {R : Value → β → Prop} {bs : List β} {l : Addr} {vs : List Value} {Q : Value → Shared → Prop}
    (hcol : ∀ (E' : Value → Shared → Prop) (Q' : List Value → Shared → Prop), (∀ (h' : Heap) (tk : Nat), (∀ b o, s.heap.get? b = some o → h'.get? b = some o) → Q' vs { s with heap := h', toks := tk }) → wpAny (model prog w) A.in1 (collect (.ref l)) Q' E' s)
    (e : PySem.W.EachIs R vs bs) (er : PySem.W.EachIs (fun v b => ∃ as, Reads s.heap v (enc b) as) vs bs) (hal : PySem.W.AllAlike (bs.map enc)) (hk : PySem.W.Sortable (bs.map enc)) (hL : bs.length ≤ sizeLine)
    (hu : ∀ b, b ∈ bs → A.units + 2 + (enc b).depth < cLine)
    (h : ∀ (h1 h2 : Heap) (tk : Nat) (out : List Value) (c : Nat), out.length = bs.length → PySem.W.EachIs R out (bs.mergeSort (PySem.W.dataLe false enc)) → (∀ b o, s.heap.get? b = some o → h1.get? b = some o) → (∀ b o, h1.get? b = some o → h2.get? b = some o) → h2.get? h1.objs.size = some (seqObj "list" (List.toArray out) c) → Q (.ref h1.objs.size) { s with heap := h2, toks := tk }) :
    wpAny (model prog w) A (call (.builtin "sorted") [.ref l]) Q E s := by
  have hlen : vs.length = bs.length := e.length
  refine Calls.call_function_entry kind_sorted plain_sorted entry_sorted (args_sorted1 _) ?_
  unfold Builtin.«sorted»
  refine wpAny_bind (m := checkCount "sorted" 1 1 _) (wpAny_pure ?_)
  refine wpAny_bind (hcol _ _ fun h' tk hk' => ?_)
  refine wpAny_bind (wpAny_newList ?_ (by rw [hlen]; exact hL))
  have hD : (h'.push { cls := .type "list", data := .seq vs.toArray }).get? h'.objs.size = some (seqObj "list" vs.toArray 0) := Heap.get?_push_size _ rfl
  have old : ∀ b o, s.heap.get? b = some o → (h'.push { cls := .type "list", data := .seq vs.toArray }).get? b = some o := fun b o q => Heap.get?_push_of_some _ (hk' b o q)
  have ne : ∀ b o, h'.get? b = some o → b ≠ h'.objs.size := fun b o q => Nat.ne_of_lt (Heap.lt_size q)
  have er' : PySem.W.EachIs (fun v b => ∃ as, Reads (PySem.W.sortingHeap (h'.push { cls := .type "list", data := .seq vs.toArray }) h'.objs.size vs) v (enc b) as) vs bs :=
    er.mono fun _ _ ⟨as, r⟩ => ⟨as, PyProof.Rows.Reads.keeps (fun b o q => PySem.W.sortingHeap_old (ne b o (hk' b o q)) (old b o q)) r⟩
  refine wpAny_bind (wpAny_holding (wpAny_call_entry slot_list_sort ⟨_, hD, rfl⟩ entry_list_sort (PySem.W.list_sort_vals (κ := PySem.W.dataKind (PySem.W.sortingHeap (h'.push { cls := .type "list", data := .seq vs.toArray }) h'.objs.size vs) (bs.map enc)) hD
    (PySem.W.SortsAt.data (s := { s with heap := PySem.W.sortingHeap (h'.push { cls := .type "list", data := .seq vs.toArray }) h'.objs.size vs, toks := tk }) (PySem.W.each_map (R := fun v d => ∃ as, Reads (PySem.W.sortingHeap (h'.push { cls := .type "list", data := .seq vs.toArray }) h'.objs.size vs) v d as) enc er') hal hk (PySem.W.bound_map ?_)) (by rw [hlen]; exact hL) ⟨.none, rfl, ?_⟩) (args_list_sort _)))
  · intro b hb
    have := hu b hb
    simpa [Around.in1] using this
  · obtain ⟨c, hc⟩ := sortedHeap_at (out := (PySem.W.sortVals (PySem.W.dataKind (PySem.W.sortingHeap (h'.push { cls := .type "list", data := .seq vs.toArray }) h'.objs.size vs) (bs.map enc)) false vs vs).toArray) hD
    refine wpAny_pure ⟨_, rfl, h h' _ tk _ c (by rw [PySem.W.sortVals_length false rfl]; exact e.length) (PySem.W.sortVals_data false e er' hal) hk' (fun b o q => ?_) hc⟩
    have hlt : b < (h'.push { cls := .type "list", data := .seq vs.toArray }).objs.size := Heap.lt_size (Heap.get?_push_of_some _ q)
    rw [sortedHeap_old (ne b o q) hlt]
    exact Heap.get?_push_of_some _ q
end
theorem mergeSort_congr {α : Type} {r t : α → α → Bool} {l : List α} (h : ∀ a ∈ l, ∀ b ∈ l, r a b = t a b) : l.mergeSort r = l.mergeSort t := by
  have := List.map_mergeSort (r := r) (s := t) (f := id) (l := l) h
  simpa using this
section
variable {g : G} {F H : Hp}
theorem allAlk_mem {xs : List D} (h : allAlk xs = true) : ∀ x ∈ xs, ∀ y ∈ xs, alk x y = true := fun x hx y hy => List.all_eq_true.mp (List.all_eq_true.mp h x hx) y hy
theorem sort_eq {xs : List D} (h : sortOk xs = true) : xs.mergeSort (PySem.W.dataLe false py) = sortD xs := by
  unfold sortOk at h
  simp only [Bool.and_eq_true] at h
  rw [← mergeSort_sortD (allAlk_mem h.1.1)]
  refine mergeSort_congr fun a ha b hb => ?_
  rw [PySem.W.dataLe_eq]
  show (!PySem.W.dataLt (py b) (py a)) = leD a b
  unfold leD
  rw [ltD_py 60 60 b a (List.all_eq_true.mp h.2 b hb) (List.all_eq_true.mp h.2 a ha) (allAlk_mem h.1.1 b hb a ha)]
theorem sort_alike {xs : List D} (h : sortOk xs = true) : PySem.W.AllAlike (xs.map py) ∧ PySem.W.Sortable (xs.map py) ∧ ∀ x ∈ xs, (py x).depth ≤ 60 := by
  unfold sortOk at h
  simp only [Bool.and_eq_true] at h
  have pl : ∀ x ∈ xs, plain 60 x = true := fun x hx => List.all_eq_true.mp h.2 x hx
  refine ⟨fun d hd d' hd' => ?_, ?_, fun x hx => (plain_py 60 x (pl x hx)).2⟩
  · obtain ⟨a, ha, rfl⟩ := List.mem_map.mp hd
    obtain ⟨b, hb, rfl⟩ := List.mem_map.mp hd'
    rw [alk_py 60 60 a b (pl a ha) (pl b hb)]
    exact allAlk_mem h.1.1 a ha b hb
  · rcases Bool.or_eq_true_iff.mp h.1.2 with z | z
    · refine .inl fun d hd => ?_
      obtain ⟨a, ha, rfl⟩ := List.mem_map.mp hd
      have q := List.all_eq_true.mp z a ha
      cases a with
      | tup ys =>
        cases ys with
        | nil => simp [isTup1] at q
        | cons y ys => exact ⟨py y, pys ys, rfl⟩
      | _ => simp [isTup1] at q
    · refine .inr fun d hd => ?_
      obtain ⟨a, ha, rfl⟩ := List.mem_map.mp hd
      have q := List.all_eq_true.mp z a ha
      cases a with
      | tup ys => simp [notTup] at q
      | non => simp [notTup] at q
      | dct _ _ => have := pl _ ha; simp [plain] at this
      | ins _ _ _ => have := pl _ ha; simp [plain] at this
      | scr _ => have := pl _ ha; simp [plain] at this
      | bl _ => exact ⟨fun z => (by simp [py] at z), fun ys z => (by simp [py] at z)⟩
      | int _ => exact ⟨fun z => (by simp [py] at z), fun ys z => (by simp [py] at z)⟩
      | str _ => exact ⟨fun z => (by simp [py] at z), fun ys z => (by simp [py] at z)⟩
      | lst _ => exact ⟨fun z => (by simp [py] at z), fun ys z => (by simp [py] at z)⟩
/-- the values that stand for the data -/
def RD (g : G) (F : Hp) (u : Value) (d : D) : Prop := ∃ v, Rep g F v d ∧ RelV v u
theorem each_of : ∀ {vs : List V} {ds : List D} {us : List Value}, Reps g F vs ds → Vals vs us → PySem.W.EachIs (RD g F) us ds
  | _, _, _, .nil, .nil => .nil
  | _, _, _, .cons r t, .cons q u => .cons ⟨_, r, q⟩ (each_of t u)
theorem of_each : ∀ {us : List Value} {ds : List D}, PySem.W.EachIs (RD g F) us ds → ∃ vs, Reps g F vs ds ∧ Vals vs us
  | _, _, .nil => ⟨[], .nil, .nil⟩
  | _, _, .cons ⟨v, r, q⟩ t => by
    obtain ⟨vs, h1, h2⟩ := of_each t
    exact ⟨v :: vs, .cons r h1, .cons q h2⟩
theorem each_reads {X : Cx} {pins : List (Addr × Obj)} {σ : L2.St} {s : Shared} (st : Std g X) (I : Inv X pins σ H s) (sb : Sub F H) : ∀ {us : List Value} {ds : List D}, PySem.W.EachIs (RD g F) us ds → (∀ d ∈ ds, plain 60 d = true) → PySem.W.EachIs (fun v b => ∃ as, Reads s.heap v (py b) as) us ds
  | _, _, .nil, _ => .nil
  | _, _, .cons ⟨v, r, q⟩ t, h => .cons (Rep.reads st I sb (h _ List.mem_cons_self) r q) (each_reads st I sb t fun d hd => h d (List.mem_cons_of_mem _ hd))
end
/-- the last steps of sorted: a new list, held -/
theorem sorted_run {g : G} {X : Cx} (st : Std g X) {F H : Hp} {pins : List (Addr × Obj)} {σ : L2.St} {s : Shared} {Q : VK} {l : Addr} {vs : List V} {ds : List D} {us : List Value} (I : Inv X pins σ H s) (sb : Sub F H) (r : Reps g F vs ds) (rv : Vals vs us) (hz : vs.length ≤ sizeLine) (ok : sortOk ds = true) (q : PoE g F H true Q (oL (sortD ds)))
    (hcol : ∀ (E' : Value → Shared → Prop) (Q' : List Value → Shared → Prop), (∀ (h' : Heap) (tk : Nat), (∀ b o, s.heap.get? b = some o → h'.get? b = some o) → Q' us { s with heap := h', toks := tk }) → wpAny (model X.prog X.w) X.A.in1 (collect (.ref l)) Q' E' s) :
    wpAny (model X.prog X.w) X.A (call (.builtin "sorted") [.ref l]) (EP X pins σ Q) X.xe s := by
  obtain ⟨hal, hk, hd⟩ := sort_alike ok
  have hp : ∀ d ∈ ds, plain 60 d = true := by
    unfold sortOk at ok
    simp only [Bool.and_eq_true] at ok
    exact fun d hd => List.all_eq_true.mp ok.2 d hd
  have e := each_of r rv
  have hu := st.un
  refine sorted_via (enc := py) (R := RD g F) hcol e (each_reads st I sb e hp) hal hk (by rw [← r.length]; exact hz) (fun b hb => by have := hd b hb; omega) fun h1 h2 tk out c hl he k1 k2 hc => ?_
  rw [sort_eq ok] at he
  obtain ⟨ws, rw1, rw2⟩ := of_each he
  have I1 : Inv X pins σ H { s with heap := h1 } := I.kept (t' := s.toks) k1
  have hz2 : ws.length ≤ sizeLine := by rw [rw2.length, hl, ← r.length]; exact hz
  exact ⟨.ref h1.objs.size, _, I1.laid (t' := tk) k2 (Nat.le_refl _) (show ObjOk X.prog X.w _ h2 _ (.lst ws) from ⟨hz2, out, c, rw2, hc⟩), rfl, q.newL sb (I1.hok.fresh (Nat.le_refl _)) rw1 hz2⟩

/-! ### the calls -/
theorem bools_map : ∀ {xs : List D} {bs : List Bool}, boolL xs = some bs → xs = bs.map D.bl
  | [], bs, e => by cases Option.some.inj e; rfl
  | x :: xs, bs, e => by
    cases x with
    | bl b =>
      unfold boolL at e
      obtain ⟨cs, h1, rfl⟩ := Option.map_eq_some_iff.mp e
      rw [bools_map h1]; rfl
    | _ => simp [boolL] at e
theorem ints_map : ∀ {xs : List D} {ns : List Int}, intL xs = some ns → xs = ns.map D.int
  | [], ns, e => by cases Option.some.inj e; rfl
  | x :: xs, ns, e => by
    cases x with
    | int b =>
      unfold intL at e
      obtain ⟨cs, h1, rfl⟩ := Option.map_eq_some_iff.mp e
      rw [ints_map h1]; rfl
    | _ => simp [intL] at e
theorem reps_bls {g : G} {F : Hp} : ∀ {vs : List V} {bs : List Bool}, Reps g F vs (bs.map D.bl) → vs = bs.map V.bl
  | _, [], h => by cases h; rfl
  | _, b :: bs, h => by
    cases h with
    | cons r t => cases r; rw [reps_bls t]; rfl
theorem reps_ints {g : G} {F : Hp} : ∀ {vs : List V} {ns : List Int}, Reps g F vs (ns.map D.int) → vs = ns.map V.int
  | _, [], h => by cases h; rfl
  | _, b :: bs, h => by
    cases h with
    | cons r t => cases r; rw [reps_ints t]; rfl
theorem maxI_spec : ∀ (is : List Int) (i : Int), (maxI i is = i ∨ maxI i is ∈ is) ∧ i ≤ maxI i is ∧ ∀ y ∈ is, y ≤ maxI i is
  | [], i => ⟨.inl rfl, Int.le_refl _, fun y h => by cases h⟩
  | j :: is, i => by
    obtain ⟨h1, h2, h3⟩ := maxI_spec is (if j > i then j else i)
    have e : maxI i (j :: is) = maxI (if j > i then j else i) is := rfl
    rw [e]
    by_cases c : j > i
    · rw [if_pos c] at h1 h2 h3 ⊢
      refine ⟨.inr ?_, by omega, fun y h => ?_⟩
      · rcases h1 with h1 | h1
        · rw [h1]; exact List.mem_cons_self
        · exact List.mem_cons_of_mem _ h1
      · rcases List.mem_cons.mp h with rfl | h
        · exact h2
        · exact h3 y h
    · rw [if_neg c] at h1 h2 h3 ⊢
      refine ⟨?_, h2, fun y h => ?_⟩
      · rcases h1 with h1 | h1
        · exact .inl h1
        · exact .inr (List.mem_cons_of_mem _ h1)
      · rcases List.mem_cons.mp h with rfl | h
        · omega
        · exact h3 y h
theorem minI_spec : ∀ (is : List Int) (i : Int), (minI i is = i ∨ minI i is ∈ is) ∧ minI i is ≤ i ∧ ∀ y ∈ is, minI i is ≤ y
  | [], i => ⟨.inl rfl, Int.le_refl _, fun y h => by cases h⟩
  | j :: is, i => by
    obtain ⟨h1, h2, h3⟩ := minI_spec is (if j < i then j else i)
    have e : minI i (j :: is) = minI (if j < i then j else i) is := rfl
    rw [e]
    by_cases c : j < i
    · rw [if_pos c] at h1 h2 h3 ⊢
      refine ⟨.inr ?_, by omega, fun y h => ?_⟩
      · rcases h1 with h1 | h1
        · rw [h1]; exact List.mem_cons_self
        · exact List.mem_cons_of_mem _ h1
      · rcases List.mem_cons.mp h with rfl | h
        · exact h2
        · exact h3 y h
    · rw [if_neg c] at h1 h2 h3 ⊢
      refine ⟨?_, h2, fun y h => ?_⟩
      · rcases h1 with h1 | h1
        · exact .inl h1
        · exact .inr (List.mem_cons_of_mem _ h1)
      · rcases List.mem_cons.mp h with rfl | h
        · omega
        · exact h3 y h
def tyN : Ty → String
  | .int => "int"
  | .bool => "bool"
  | .str => "str"
  | .tuple => "tuple"
  | .list => "list"
  | .dict => "dict"
/-- a builtin's value and name -/
def biN : Bi → Option (Str × Value)
  | .len => some ("len", .builtin "len")
  | .list => some ("list", .type "list")
  | .tuple => some ("tuple", .type "tuple")
  | .sorted => some ("sorted", .builtin "sorted")
  | .all => some ("all", .builtin "all")
  | .any => some ("any", .builtin "any")
  | .int => some ("int", .type "int")
  | .abs => some ("abs", .builtin "abs")
  | .min => some ("min", .builtin "min")
  | .max => some ("max", .builtin "max")
  | .sum => some ("sum", .builtin "sum")
  | .dict => some ("dict", .type "dict")
  | _ => none
/-- the call of a builtin -/
def rbi (g : G) (b : Bi) : List V → Hp → VK → Prop := fun xs H Q => ∃ F ss s, Sub F H ∧ OwnSs g F H xs ss ∧ biS b ss = some s ∧ PoE g F H true Q s
section
variable {g : G} {F H : Hp} {X : Cx} {pins : List (Addr × Obj)} {σ : L2.St} {s : Shared}
theorem own1 {xs : List V} {x : SV} (h : OwnSs g F H xs [x]) : ∃ v fp, xs = [v] ∧ OwnS g F H v x fp := by
  cases h with
  | cons h t => cases t; exact ⟨_, _, rfl, h⟩
theorem own2 {xs : List V} {x y : SV} (h : OwnSs g F H xs [x, y]) : ∃ v fp w fq, xs = [v, w] ∧ OwnS g F H v x fp ∧ OwnS g F H w y fq := by
  cases h with
  | cons h t =>
    cases t with
    | cons h2 t => cases t; exact ⟨_, _, _, _, rfl, h, h2⟩
theorem own_dict {v : V} {x : SV} {fp : List Addr} {ks : List D} (sb : Sub F H) (e : x.dict? = some ks) (h : OwnS g F H v x fp) : ∃ a es, v = .ref a ∧ Rd H a (dictHO a es) ∧ DF g F es ks ∧ es.length ≤ sizeLine := by
  match x, e, h with
  | .o (.fz (.dct ks' ds)), e, h =>
    cases Option.some.inj e
    obtain ⟨a, es, h1, h2, h3, _, h4⟩ := DF.of_dct sb h
    exact ⟨a, es, h1, h2, h3, h4⟩
  | .o (.dct ks' ds), e, h =>
    cases Option.some.inj e
    obtain ⟨a, es, h1, _, h2, h3, _, h4⟩ := DF.of_own h
    exact ⟨a, es, h1, .inl h2, h3, h4⟩
  | .o (.dcl ks' ds), e, h =>
    cases Option.some.inj e
    obtain ⟨a, es, _, h1, _, h2, h3, _, _, h4⟩ := DF.of_dcl h
    exact ⟨a, es, h1, .inl h2, h3, h4⟩
theorem len_dict {a : Addr} {es : List Ent} {ks : List D} {Q : VK} (st : Std g X) (I : Inv X pins σ H s) (sb : Sub F H) (e : Rd H a (dictHO a es)) (d : DF g F es ks) (hz : es.length ≤ sizeLine) (q : Q (.int ks.length) H) :
    wpAny (model X.prog X.w) X.A (call (.builtin "len") [.ref a]) (EP X pins σ Q) X.xe s := by
  have x := dict_at I e
  have hy : (a == sysModules) = false := x.2.1
  have hlen := d.len
  have hz' : (ks.length : Int) < 2 ^ 63 := by rw [← hlen]; rw [sizeLine_eq] at hz; omega
  have ka := d.all
  rcases Bool.or_eq_true_iff.mp ka with hl | hl
  · have hl' := List.all_eq_true.mp hl
    obtain ⟨vs, v1, v2, dd⟩ := leaf_dictOf (P := X.prog) (w := X.w) x d.keys hl' (by rw [st.w]; exact d.hash) d.nd
    have hl2 : ((ks.map keyOf).zip vs).length = ks.length := by
      have := v1.length
      rw [List.length_map] at this
      rw [List.length_zip, List.length_map]
      omega
    refine call_len_dict hy dd (by rw [hl2]; exact hz') ?_
    rw [hl2]
    exact ⟨.int ks.length, H, I.tok _, ⟨_, rfl⟩, q⟩
  · have hl' := List.all_eq_true.mp hl
    obtain ⟨xs, t, dd⟩ := tup_dictOf (P := X.prog) (w := X.w) st I sb x d.keys hl' (by rw [st.w]; exact d.hash) d.nd
    have hl2 : xs.length = ks.length := t.len.1
    refine call_len_dictH hy dd (by rw [hl2]; exact hz') ?_
    rw [hl2]
    exact ⟨.int ks.length, H, I.tok _, ⟨_, rfl⟩, q⟩
theorem raw_of {a : Addr} {es : List Ent} (x : DictAt s.heap a es) : ∃ ens ep, s.heap.DictRaw a ens ep ∧ Paired (fun (q : Ent) (e : DictEntry) => e.hash = q.1 ∧ RelV q.2.1 e.key ∧ RelV q.2.2 e.val) es ens.toList := by
  obtain ⟨_, _, o, ens, ep, h1, h2, h3, h4⟩ := x
  exact ⟨ens, ep, ⟨o, h1, h2, h3⟩, h4⟩
theorem keys_vals : ∀ {es : List Ent} {ens : List DictEntry}, Paired (fun (q : Ent) (e : DictEntry) => e.hash = q.1 ∧ RelV q.2.1 e.key ∧ RelV q.2.2 e.val) es ens → Vals (es.map (·.2.1)) (ens.map (·.key))
  | _, _, .nil => .nil
  | _, _, .cons r t => .cons r.2.1 (keys_vals t)
theorem items_keys {ens : Array DictEntry} {acc : List Value} (hl : acc.length = ens.size) (h : ∀ (j : Nat) (v : Value), acc[j]? = some v → ∃ hi : j < ens.size, v = ens[j].key) : acc = ens.toList.map (·.key) := by
  refine List.ext_getElem? fun j => ?_
  rw [List.getElem?_map]
  cases e : acc[j]? with
  | none =>
    have : ens.toList[j]? = none := List.getElem?_eq_none_iff.mpr (by rw [Array.length_toList, ← hl]; exact List.getElem?_eq_none_iff.mp e)
    rw [this]; rfl
  | some v =>
    obtain ⟨hi, rfl⟩ := h j v e
    rw [Array.getElem?_toList, Array.getElem?_eq_getElem hi]; rfl
end
end Pd

end
section
set_option linter.all false
set_option autoImplicit false
set_option Elab.async false
set_option maxRecDepth 100000
namespace Pd
open PySem PySem.Spec PyProof.Rows L2
section
variable {g : G} {F H : Hp} {X : Cx} {pins : List (Addr × Obj)} {σ : L2.St} {s : Shared}
theorem kV_of {P : Program} {w : World} {k : Key} {u : Value} (h : (mixKind P w).is k u = true) : RelV (kV k) u := by
  rcases keyIs_shape (show keyIs k u = true from h) with ⟨i, t, rfl, rfl⟩ | ⟨x, t, rfl, rfl⟩
  · exact ⟨t, rfl⟩
  · exact ⟨t, rfl⟩
theorem leaf_same {P : Program} {w : World} : ∀ {es : List Ent} {ens : List DictEntry} {ks : List D} {vs : List Value}, Reps g F (es.map (·.2.1)) ks → (∀ x ∈ ks, leafK x = true) →
    es.map (·.1) = ks.map (fun k => (nk k).hash w) → Vals (es.map (·.2.2)) vs → (∀ e ∈ ens, ∃ k, (mixKind P w).is k e.key = true ∧ e.hash = (mixKind P w).hash k) → Pairs (mixKind P w) ens ((ks.map keyOf).zip vs) →
    Paired (fun (q : Ent) (e : DictEntry) => e.hash = q.1 ∧ RelV q.2.1 e.key ∧ RelV q.2.2 e.val) es ens
  | [], ens, ks, vs, r, _, _, _, _, p => by
    cases r
    cases p
    exact .nil
  | q :: es, ens, ks, vs, r, hl, hh, v, hk, p => by
    cases r with
    | cons r1 r2 =>
      rename_i d ds
      obtain ⟨e1, e2⟩ : q.1 = (nk d).hash w ∧ es.map (·.1) = ds.map (fun k => (nk k).hash w) := by simpa using hh
      cases v with
      | cons v1 v2 =>
        cases p with
        | cons p1 p2 p3 =>
          have ld := hl d List.mem_cons_self
          refine .cons ⟨?_, ?_, ?_⟩ (leaf_same r2 (fun x hx => hl x (List.mem_cons_of_mem _ hx)) e2 v2 (fun e he => hk e (List.mem_cons_of_mem _ he)) p3)
          · obtain ⟨k, h1, h2⟩ := hk _ List.mem_cons_self
            have := (mixKind P w).inj _ _ _ h1 p1
            rw [h2, this, e1]
            exact keyH_of ld
          · have ev : q.2.1 = kV (keyOf d) := leaf_v ld r1
            rw [ev]
            exact kV_of p1
          · rw [p2] <;> exact v1
/-- dict(d): a copy -/
theorem c_dict0 {a : Addr} {es : List Ent} {ks ds : List D} {Q : VK} (st : Std g X) (I : Inv X pins σ H s) (sb : Sub F H) (e : Rd H a (dictHO a es)) (d : DF g F es ks) (hl : ∀ x ∈ ks, leafK x = true) (hz : es.length ≤ sizeLine) (rv : Reps g F (es.map (·.2.2)) ds) (q : PoE g F H true Q (.o (.dct ks ds))) :
    wpAny (model X.prog X.w) X.A (call (.type "dict") [.ref a]) (EP X pins σ Q) X.xe s := by
  have x := dict_at I e
  obtain ⟨vs, v1, v2, dd⟩ := leaf_dictOf (P := X.prog) (w := X.w) x d.keys hl (by rw [st.w]; exact d.hash) d.nd
  have hb : (s.heap.objs.size == sysModules) = false := beq_eq_false_iff_ne.mpr (Ne.symm (Nat.ne_of_lt I.big))
  refine kt_call_dict (knd := mixKind X.prog X.w) x.2.1 dd (by rw [List.length_zip, List.length_map, v2, Nat.min_self, ← d.len]; exact hz) fun h' dd' hs => ?_
  obtain ⟨o, ens, ep, q1, q2, q3, q4, q5, q6⟩ := dd'
  have hp := I.hok.fresh (Nat.le_refl _)
  have at' : DictAt h' s.heap.objs.size es := ⟨hz, hb, o, ens, ep, q1, q2, q3, leaf_same d.keys hl (by rw [st.w]; exact d.hash) v1 (fun e0 he0 => q4 e0 (by simpa using he0)) q5⟩
  refine ⟨.ref s.heap.objs.size, upd H s.heap.objs.size (dictHO s.heap.objs.size es), I.laid (t' := s.toks) (fun b u z => (hs.2 b (Nat.ne_of_lt (Heap.lt_size z))).trans (Heap.get?_push_of_some _ z)) (Nat.le_refl _) (DictAt.ok at'), rfl, ?_⟩
  refine q (.ref s.heap.objs.size) F _ [s.heap.objs.size] (Grow.own sb hp) ⟨s.heap.objs.size, es, rfl, rfl, upd_same, hz, d.keys, rv, d.hash, d.all, d.nd⟩ (fun _ a ha => by cases List.mem_singleton.mp ha; exact hp) (fun a ha => by cases List.mem_singleton.mp ha; exact sb.none hp) (by simp)
end
end Pd

end
section
set_option linter.all false
set_option autoImplicit false
set_option Elab.async false
set_option maxRecDepth 100000
/-! Pd.Ops5: calls of built-in functions. -/
namespace Pd
open PySem PySem.Spec PyProof.Rows L2
section
variable {g : G} {X : Cx} {pins : List (Addr × Obj)} {s : Shared} {σ : L2.St} {F H : Hp} {v : V} {u : Value} {Q : VK} {x z : SV} {fp : List Addr}
theorem c_len (st : Std g X) (I : Inv X pins σ H s) (sb : Sub F H) (o : OwnS g F H v x fp) (r : RelV v u) (e : lenS x = some z) (q : PoE g F H true Q z) : wpAny (model X.prog X.w) X.A (call (.builtin "len") [u]) (EP X pins σ Q) X.xe s := by
  have rs : Vals [v] [u] := .cons r .nil
  unfold lenS at e
  split at e
  · rename_i cs es
    cases Option.some.inj e
    match x, es, o with
    | .o (.fz (.str s)), es, o =>
      cases Option.some.inj es
      obtain ⟨rfl, hz⟩ := own_str o
      exact call_len_str pins _ σ H _ _ Q I rs ⟨_, rfl, by rw [strN_len]; exact hz, by rw [strN_len]; exact q.pure sb (.int _)⟩
  · split at e
    · rename_i xs ei
      cases Option.some.inj e
      unfold SV.its? at ei
      split at ei
      · rename_i ks ek
        cases Option.some.inj ei
        obtain ⟨a, es, rfl, hd, df, hz⟩ := own_dict sb ek o
        cases r
        exact len_dict st I sb hd df hz (q.pure sb (.int _))
      · obtain ⟨a, vs, rfl, hs, hz, rr⟩ := own_seq sb ei o
        exact call_len_seq pins s σ H _ _ Q I rs ⟨a, vs, rfl, by rw [st.K]; exact hs, by rw [rr.length]; exact q.pure sb (.int _)⟩
    · cases e
theorem c_list (st : Std g X) (I : Inv X pins σ H s) (sb : Sub F H) (o : OwnS g F H v x fp) (r : RelV v u) {xs : List D} (e : x.its? = some xs) (q : PoE g F H true Q (oL xs)) : wpAny (model X.prog X.w) X.A (call (.type "list") [u]) (EP X pins σ Q) X.xe s := by
  have rs : Vals [v] [u] := .cons r .nil
  unfold SV.its? at e
  split at e
  · rename_i ks ek
    cases Option.some.inj e
    obtain ⟨a, es, rfl, hd, df, hz⟩ := own_dict sb ek o
    cases r
    have dx := dict_at I hd
    obtain ⟨ens, ep, raw, pr⟩ := raw_of dx
    have hn : ens.size = es.length := by rw [← Array.length_toList]; exact pr.length.symm
    refine PySem.W.kdl_call (PySem.KdlSrc.rawDict (prog := X.prog) (w := X.w) dx.2.1) (I.ok.hd st.calm) raw (by rw [hn]; exact hz) fun h' tk acc c hk hD hacc => ?_
    have hk2 := items_keys (acc := acc.toList) (by rw [Array.length_toList]; exact hacc.1) fun j w ew => hacc.2 j w (by rw [← Array.getElem?_toList]; exact ew)
    have hv : Vals (es.map (·.2.1)) acc.toList := by rw [hk2]; exact keys_vals pr
    have hz2 : (es.map (·.2.1)).length ≤ sizeLine := by rw [List.length_map]; exact hz
    exact ⟨.ref s.heap.objs.size, _, I.laid (t' := tk) hk (Nat.le_refl _) (show ObjOk X.prog X.w _ h' _ (.lst (es.map (·.2.1))) from ⟨hz2, acc.toList, c, hv, by rw [Array.toArray_toList]; exact hD⟩), rfl, q.newL sb (I.hok.fresh (Nat.le_refl _)) df.keys hz2⟩
  · obtain ⟨a, vs, rfl, hs, hz, rr⟩ := own_seq sb e o
    exact call_list_of pins s σ H _ _ Q I rs ⟨a, vs, rfl, by rw [st.K]; exact hs, fun l hl => q.newL sb hl rr hz⟩
theorem c_tuple (st : Std g X) (I : Inv X pins σ H s) (sb : Sub F H) (o : OwnS g F H v x fp) (r : RelV v u) {xs : List D} (e : x.seq? = some xs) (q : PoE g F H true Q (fz (.tup xs))) : wpAny (model X.prog X.w) X.A (call (.type "tuple") [u]) (EP X pins σ Q) X.xe s := by
  have rs : Vals [v] [u] := .cons r .nil
  match x, e, o with
  | .o (.fz (.lst ys)), e, o =>
    cases Option.some.inj e
    have rr := own_fz o
    cases rr with
    | @lst a vs _ h1 h2 h3 => exact call_tuple_of pins s σ H _ _ Q I rs ⟨a, vs, rfl, .inl ⟨.inl (.inl (sb.lst h1)), fun l hl => q.newT sb hl h3 h2⟩⟩
  | .o (.lst ys), e, o =>
    cases Option.some.inj e
    obtain ⟨a, vs, e1, _, e3, hz, rr⟩ := o
    subst e1
    exact call_tuple_of pins s σ H _ _ Q I rs ⟨a, vs, rfl, .inl ⟨.inl (.inl e3), fun l hl => q.newT sb hl rr hz⟩⟩
  | .o (.fz (.tup ys)), e, o =>
    cases Option.some.inj e
    obtain ⟨a, vs, e1, e3, hz, rr, _⟩ := own_tup sb o
    subst e1
    exact call_tuple_of pins s σ H _ _ Q I rs ⟨a, vs, rfl, .inr ⟨by rw [st.K]; exact e3, q.pure sb (own_fz o)⟩⟩
theorem c_sorted (st : Std g X) (I : Inv X pins σ H s) (sb : Sub F H) (o : OwnS g F H v x fp) (r : RelV v u) (e : sortedS x = some z) (q : PoE g F H true Q z) : wpAny (model X.prog X.w) X.A (call (.builtin "sorted") [u]) (EP X pins σ Q) X.xe s := by
  unfold sortedS at e
  split at e
  · rename_i xs ei
    split at e
    · rename_i ok
      cases Option.some.inj e
      unfold SV.its? at ei
      split at ei
      · rename_i ks ek
        cases Option.some.inj ei
        obtain ⟨a, es, rfl, hd, df, hz⟩ := own_dict sb ek o
        cases r
        have dx := dict_at I hd
        obtain ⟨ens, ep, raw, pr⟩ := raw_of dx
        have hn : ens.size = es.length := by rw [← Array.length_toList]; exact pr.length.symm
        refine sorted_run st I sb df.keys (keys_vals pr) (by rw [List.length_map]; exact hz) ok q fun E' Q' hq => ?_
        refine PySem.W.kdu_collect (PySem.KdlSrc.rawDict (prog := X.prog) (w := X.w) dx.2.1) (I.ok.hd st.calm) raw (by rw [hn]; exact hz) fun h' tk acc hk hacc => ?_
        have hk2 := items_keys (acc := acc.toList) (by rw [Array.length_toList]; exact hacc.1) fun j w ew => hacc.2 j w (by rw [← Array.getElem?_toList]; exact ew)
        rw [hk2]
        exact hq h' tk hk
      · obtain ⟨a, vs, rfl, hs, hz, rr⟩ := own_seq sb ei o
        cases r
        rcases hs with hs | hs
        · obtain ⟨its, rv, pl, _⟩ := I.list (by rw [st.K]; exact hs)
          refine sorted_run st I sb rr rv hz ok q fun E' Q' hq => ?_
          refine collect_list pl.isList (hq _ _ fun b o' q' => ?_) (by rw [← rv.length]; exact hz)
          have hlt : b < s.heap.objs.size := Heap.lt_size q'
          rw [Heap.get?_update_ne _ _ _ _ (Nat.ne_of_lt hlt), Heap.get?_push_ne _ _ _ (Nat.ne_of_lt hlt)]
          exact q'
        · obtain ⟨its, rv, pl, _⟩ := I.tuple (by rw [st.K]; exact hs)
          refine sorted_run st I sb rr rv hz ok q fun E' Q' hq => ?_
          exact collect_tup pl (fun h' hk => hq h' s.toks hk) (by rw [← rv.length]; exact hz)
    · cases e
  · cases e
theorem own_bools (sb : Sub F H) (o : OwnS g F H v x fp) {bs : List Bool} (e : bools? x = some bs) : ∃ a, v = .ref a ∧ SqL g.K H a (bs.map V.bl) := by
  unfold bools? at e
  split at e
  · rename_i xs ei
    obtain ⟨a, vs, rfl, ha, hz, rr⟩ := own_list sb ei o
    rw [bools_map e] at rr
    rw [reps_bls rr] at ha
    exact ⟨a, rfl, .inl (.inl ha)⟩
  · cases e
theorem own_ints (sb : Sub F H) (o : OwnS g F H v x fp) {bs : List Int} (e : ints? x = some bs) : ∃ a, v = .ref a ∧ SqL g.K H a (bs.map V.int) := by
  unfold ints? at e
  split at e
  · rename_i xs ei
    obtain ⟨a, vs, rfl, ha, hz, rr⟩ := own_list sb ei o
    rw [ints_map e] at rr
    rw [reps_ints rr] at ha
    exact ⟨a, rfl, .inl (.inl ha)⟩
  · cases e
theorem call_biS (st : Std g X) {b : Bi} {n : Str} {f : Value} (hb : biN b = some (n, f)) : CallR X f (rbi g b) := by
  intro pins s σ H xs us Q I r h
  obtain ⟨F, ss, z, sb, os, e, q⟩ := h
  have hc := st.calm
  unfold biS at e
  split at e
  · rename_i x
    obtain ⟨v, fp, rfl, o⟩ := own1 os
    obtain ⟨u, rfl, rv⟩ := vals1 r
    cases b with
    | len => cases Option.some.inj hb; exact c_len st I sb o rv e q
    | list =>
      cases Option.some.inj hb
      unfold bi1 at e
      dsimp only at e
      split at e
      · rename_i ys ey
        cases Option.some.inj e
        exact c_list st I sb o rv ey q
      · cases e
    | tuple =>
      cases Option.some.inj hb
      unfold bi1 at e
      dsimp only at e
      split at e
      · rename_i ys ey
        cases Option.some.inj e
        exact c_tuple st I sb o rv ey q
      · cases e
    | sorted => cases Option.some.inj hb; exact c_sorted st I sb o rv e q
    | all =>
      cases Option.some.inj hb
      unfold bi1 at e
      dsimp only at e
      split at e
      · rename_i bs eb
        cases Option.some.inj e
        obtain ⟨a, rfl, ha⟩ := own_bools sb o eb
        exact cr_all hc pins s σ H _ _ Q I r ⟨a, bs, rfl, by rw [st.K]; exact ha, q.pure sb (.bl _)⟩
      · cases e
    | any =>
      cases Option.some.inj hb
      unfold bi1 at e
      dsimp only at e
      split at e
      · rename_i bs eb
        cases Option.some.inj e
        obtain ⟨a, rfl, ha⟩ := own_bools sb o eb
        exact cr_any hc pins s σ H _ _ Q I r ⟨a, bs, rfl, by rw [st.K]; exact ha, q.pure sb (.bl _)⟩
      · cases e
    | int =>
      cases Option.some.inj hb
      unfold bi1 intS at e
      dsimp only at e
      split at e
      · cases Option.some.inj e
        cases own_int o
        exact call_int1 pins s σ H _ _ Q I r (.inl ⟨_, rfl, q.pure sb (.int _)⟩)
      · cases Option.some.inj e
        cases own_bl o
        exact call_int1 pins s σ H _ _ Q I r (.inr ⟨_, rfl, q.pure sb (.int _)⟩)
      · cases e
    | abs =>
      cases Option.some.inj hb
      unfold bi1 absS at e
      dsimp only at e
      split at e
      · cases Option.some.inj e
        cases own_int o
        exact call_abs pins s σ H _ _ Q I r ⟨_, rfl, q.pure sb (.int _)⟩
      · cases e
    | min =>
      cases Option.some.inj hb
      unfold bi1 at e
      dsimp only at e
      split at e
      · rename_i i is eb
        cases Option.some.inj e
        obtain ⟨a, rfl, ha⟩ := own_ints sb o eb
        refine cr_min hc pins s σ H _ _ Q I r ⟨a, i :: is, rfl, by rw [st.K]; exact ha, by simp, fun m h1 h2 => ?_⟩
        obtain ⟨k1, k2, k3⟩ := minI_spec is i
        have e1 : m ≤ minI i is := by
          rcases k1 with k1 | k1
          · rw [k1]; exact h2 _ List.mem_cons_self
          · exact h2 _ (List.mem_cons_of_mem _ k1)
        have e2 : minI i is ≤ m := by
          rcases List.mem_cons.mp h1 with rfl | h1
          · exact k2
          · exact k3 _ h1
        rw [Int.le_antisymm e1 e2]
        exact q.pure sb (.int _)
      · cases e
    | max =>
      cases Option.some.inj hb
      unfold bi1 at e
      dsimp only at e
      split at e
      · rename_i i is eb
        cases Option.some.inj e
        obtain ⟨a, rfl, ha⟩ := own_ints sb o eb
        refine cr_max hc pins s σ H _ _ Q I r ⟨a, i :: is, rfl, by rw [st.K]; exact ha, by simp, fun m h1 h2 => ?_⟩
        obtain ⟨k1, k2, k3⟩ := maxI_spec is i
        have e1 : maxI i is ≤ m := by
          rcases k1 with k1 | k1
          · rw [k1]; exact h2 _ List.mem_cons_self
          · exact h2 _ (List.mem_cons_of_mem _ k1)
        have e2 : m ≤ maxI i is := by
          rcases List.mem_cons.mp h1 with rfl | h1
          · exact k2
          · exact k3 _ h1
        rw [Int.le_antisymm e2 e1]
        exact q.pure sb (.int _)
      · cases e
    | sum =>
      cases Option.some.inj hb
      unfold bi1 at e
      dsimp only at e
      split at e
      · rename_i is eb
        cases Option.some.inj e
        obtain ⟨a, rfl, ha⟩ := own_ints sb o eb
        exact cr_sum hc pins s σ H _ _ Q I r ⟨a, is, rfl, by rw [st.K]; exact ha, q.pure sb (.int _)⟩
      · cases e
    | dict =>
      cases Option.some.inj hb
      unfold bi1 dctS at e
      dsimp only at e
      split at e
      · split at e
        · rename_i hl
          cases Option.some.inj e
          obtain ⟨a, es, rfl, e1, d, r2, z⟩ := DF.of_dct sb o
          cases rv
          exact c_dict0 st I sb e1 d (List.all_eq_true.mp hl) z r2 q
        · cases e
      · split at e
        · rename_i hl
          cases Option.some.inj e
          obtain ⟨a, es, rfl, _, e1, d, r2, z⟩ := DF.of_own o
          cases rv
          exact c_dict0 st I sb (.inl e1) d (List.all_eq_true.mp hl) z r2 q
        · cases e
      · cases e
    | _ => cases hb
  · obtain ⟨v, fp, w', fq, rfl, o, o2⟩ := own2 os
    unfold bi2 at e
    split at e
    · cases own_int o
      cases own_int o2
      split at e
      · cases Option.some.inj hb
        cases Option.some.inj e
        exact call_min2 hc pins s σ H _ _ Q I r ⟨_, _, rfl, q.pure sb (.int _)⟩
      · cases Option.some.inj hb
        cases Option.some.inj e
        exact call_max2 hc pins s σ H _ _ Q I r ⟨_, _, rfl, q.pure sb (.int _)⟩
      · cases e
    · cases e
  · cases e
/-! ### isinstance -/
def vTy : D → String
  | .non => "NoneType"
  | .bl _ => "bool"
  | .int _ => "int"
  | .str _ => "str"
  | .tup _ => "tuple"
  | _ => "list"
theorem kit_isTy (t : Ty) (d : D) (h : isiOk d = true) : kitB (vTy d) (tyN t) = some (isTy t d) := by
  have key : ∀ a ∈ ["NoneType", "bool", "int", "str", "tuple", "list"], kitB a (tyN t) = some (tyN t == a || (tyN t == "int" && a == "bool")) := by
    cases t <;> decide +kernel
  have k2 : vTy d ∈ ["NoneType", "bool", "int", "str", "tuple", "list"] := by cases d <;> simp [vTy]
  rw [key _ k2]
  cases d <;> cases t <;> first | rfl | (simp [isiOk] at h; done)
theorem tyX_of (sb : Sub F H) {d : D} (r : Rep g F v d) (h : isiOk d = true) : TyX g.K H v (.type (vTy d)) := by
  cases r with
  | non => exact .base .non
  | bl b => exact .base (.bl b)
  | int i => exact .base (.int i)
  | str x z => exact .base (.str _)
  | tup h1 h2 h3 =>
    rcases sb.sqT (g := g) h1 with (e | ⟨o, e⟩) | ⟨o, its, n, e, hc, _⟩
    · exact .base (.tup e)
    · exact .fTuple e
    · exact .kTuple e hc
  | lst h1 h2 h3 => exact .base (.lst (sb.lst h1))
  | dct _ _ _ _ _ _ _ => simp [isiOk] at h
  | ins _ _ _ _ => simp [isiOk] at h
  | scr _ _ => simp [isiOk] at h
theorem call_isiS (st : Std g X) (t : Ty) : CallR X (.builtin "isinstance") (fun xs H Q => ∃ F v x fp z, xs = [v, .ty (tyN t)] ∧ Sub F H ∧ OwnS g F H v x fp ∧ isiS t x = some z ∧ PoE g F H true Q z) := by
  intro pins s σ H xs us Q I r h
  obtain ⟨F, v, x, fp, z, rfl, sb, o, e, q⟩ := h
  unfold isiS at e
  split at e
  · rename_i d
    split at e
    · rename_i ok
      cases Option.some.inj e
      have rr := own_fz o
      refine call_isi pins s σ H _ us Q I r ⟨v, _, _, _, isTy t d, rfl, .ty _, by rw [st.K]; exact tyX_of sb rr ok, kit_ty (kit_isTy t d ok), q.pure sb (.bl _)⟩
    · cases e
  · cases e
end
end Pd

end
section
set_option linter.all false
set_option autoImplicit false
set_option Elab.async false
set_option maxRecDepth 100000
/-! Pd.Snd1: the evaluator is sound: words. -/
namespace Pd
open PySem PySem.Spec PyProof.Rows L2

/-! ### promises -/
inductive OwnSv (g : G) (F H : Hp) : List V → List SV → List (List Addr) → Prop
  | nil : OwnSv g F H [] [] []
  | cons {v : V} {s : SV} {fp : List Addr} {vs : List V} {ss : List SV} {fps : List (List Addr)} : OwnS g F H v s fp → OwnSv g F H vs ss fps → OwnSv g F H (v :: vs) (s :: ss) (fp :: fps)
/-- all but fp0 is kept -/
structure Post (F H F' H' : Hp) (fp0 : List Addr) : Prop where
  sub : Sub F' H'
  keep : ∀ a o, H a = some o → a ∉ fp0 → H' a = some o ∧ F' a = F a
def Out (g : G) (F H : Hp) (ivs : List V) (fp0 : List Addr) (Q : VK) (E : XK) : RC → Prop
  | .ok s ios => ∀ v F' H' fp fqs, Post F H F' H' fp0 → OwnS g F' H' v s fp → OwnSv g F' H' ivs ios fqs → (fp ++ fqs.flatten).Nodup → (∀ a ∈ fp ++ fqs.flatten, F' a = none ∧ (a ∈ fp0 ∨ H a = none)) → Q v H'
  | .exc c ios => ∀ F' H' fqs, Post F H F' H' fp0 → OwnSv g F' H' ivs ios fqs → fqs.flatten.Nodup → (∀ a ∈ fqs.flatten, F' a = none ∧ (a ∈ fp0 ∨ H a = none)) → E (.ref (g.xA c)) none H'
  | .bad => False
/-- what a function promises -/
def spF (g : G) (Φ : Phi) (io : List Nat) (f : Nat) : Sp := fun vs H Q E => ∃ F args fps, Sub F H ∧ OwnSv g F H vs args fps ∧ fps.flatten.Nodup ∧ (∀ a ∈ fps.flatten, F a = none) ∧
  Out g F H (io.map fun i => vs.getD i .non) fps.flatten Q E (Φ f args)
/-- an exception class without own __init__ -/
structure ExcF (g : G) (i : Nat) : Prop where
  ex : ∃ bmB B newId initId, ExcBaseFacts B newId initId bmB ∧ PySem.W.excIn g.K (g.xA i) bmB newId = true
  mg : g.mg (g.p.excN i) = some (.ref (g.xA i))
  kp : PySem.W.keepIn g.K (.ref (g.xA i)) = true
  sub : PySem.W.subIn g.K (.ref (g.xA i)) (.type "BaseException") = some true
  ty : PySem.W.typeIn g.K (.ref (g.xA i)) = some (.type "type")
/-- the error classes: 0 is the others' base -/
def subX (i j : Nat) : Bool := i == j || j == 0
structure ExQ (g : G) : Prop where
  isq : ∀ i, i < g.p.excs.length → ExcC g.K (g.xA i)
  exm : ∀ i j, i < g.p.excs.length → j < g.p.excs.length → PySem.W.exmOne g.K (.ref (g.xA i)) (.ref (g.xA j)) = some (subX i j)
  kit : ∀ i j, i < g.p.excs.length → j < g.p.excs.length → PySem.W.kitOne g.K (.ref (g.xA i)) (.ref (g.xA j)) = some (subX i j)
/-- what stands in the module -/
structure Lib (g : G) : Prop where
  con : ∀ x d, (x, d) ∈ g.p.cons → ∃ u v, g.mg x = some u ∧ RelV v u ∧ ∀ F, Rep g F v d
  bi : ∀ x, x ∈ g.p.bis → g.mg x = none
  cls : ∀ c, c < g.p.cls.length → Cls g.K (g.cA c) ∧ ∀ f, f < g.p.flds.length → NoAttr g.K (g.cA c) (g.p.fld f)
  fld : g.p.flds.Nodup ∧ Str.empty ∉ g.p.flds
  fn : ∀ f fs, g.p.fns[f]? = some fs → fs.at_.2 = Option.none → g.mg fs.at_.1 = some (.ref (g.fA f)) ∧ PySem.W.keepIn g.K (.ref (g.fA f)) = true
  bd : ∀ f fs, g.p.fns[f]? = some fs → Binds g.K (g.fD f) fs.ps []
  meth : ∀ f fs m c, g.p.fns[f]? = some fs → fs.at_.2 = some m → c < g.p.cls.length → g.p.clsN c = fs.at_.1 → Meth g.K (g.cA c) m (g.fA f) ∧ m ∉ g.p.flds ∧ m ≠ Str.empty
  exc : ∀ i, i < g.p.excs.length → ExcF g i
  exq : ExQ g
  maker : ∀ f fs m c, g.p.fns[f]? = some fs → fs.at_.2 = some m → m = ("__init__" : Str) → c < g.p.cls.length → g.p.clsN c = fs.at_.1 → g.mg (g.p.clsN c) = some (.ref (g.cA c)) ∧ Mk g.K (g.cA c) (g.fA f)
def Lvl (g : G) (Φ : Phi) (k : Nat) : Prop := ∀ f fs, g.p.fns[f]? = some fs → FnOk g.P g.w g.K g.mg g.base (L2.CX g.P g.w) k (g.fA f) (g.fD f) fs.ps (spF g Φ fs.fi.io f)
/-- what holds of a context -/
structure Cc where
  g : G
  Φ : Phi
  k : Nat
  N : List Str
  sc : Scope
  fnl : Str → Bool
structure Okx (c : Cc) (W : WX) (X : Cx) : Prop where
  pr : X.prog = c.g.P
  w : X.w = c.g.w
  K : X.K = c.g.K
  calm : X.calm = true
  mg : X.mg = c.g.mg
  base : X.base = c.g.base
  N : X.N = c.N
  nd : c.N.Nodup
  sc : X.env.scope = c.sc
  fn : ∀ x, c.fnl x = true → X.fn x = true
  room : Room (c.k + 1) X.A
  tk : Takes X W
  lib : Lib c.g
  lvl : Lvl c.g c.Φ c.k
section
variable {c : Cc} {W : WX} {X : Cx}
theorem Okx.std (ok : Okx c W X) : Std c.g X := ⟨ok.pr, ok.w, ok.K, by have := ok.room.un; omega, ok.calm⟩
theorem Okx.ndX (ok : Okx c W X) : X.N.Nodup := by rw [ok.N]; exact ok.nd
end
/-- what the slots own -/
def EnvE (g : G) (F H : Hp) (ρ : Env) (σ : L2.St) : Prop := ρ.length = σ.length ∧ ∀ (i : Nat) (s : SV), ρ[i]? = some (some s) → ∃ v fp, σ[i]? = some (some v) ∧ OwnS g F H v s fp ∧ (∀ a ∈ fp, F a = none) ∧ fp.Nodup
theorem EnvE.grow {g : G} {F H F' H' : Hp} {ρ : Env} {σ : L2.St} (en : EnvE g F H ρ σ) (sb : Sub F H) (x : Grow F H F' H') : EnvE g F' H' ρ σ := ⟨en.1, fun i s e => by
  obtain ⟨v, fp, h1, h2, h3, h4⟩ := en.2 i s e
  refine ⟨v, fp, h1, h2.grow sb x, fun a ha => ?_, h4⟩
  obtain ⟨o, ho, _⟩ := h2.fp_some a ha
  rw [(x.keep a o ho).2]
  exact h3 a ha⟩
/-- an outcome -/
def PRx (g : G) (W : WX) (σ : L2.St) {α : Type} (P : Hp → Hp → α → Prop) (F H : Hp) : R α → Prop
  | .ok a => P F H a
  | .exc c => ∀ F' H', Grow F H F' H' → W (.ref (g.xA c)) none σ H'
  | .bad => False
def Mono {α : Type} (P : Hp → Hp → α → Prop) : Prop := ∀ F H F' H' a, Grow F H F' H' → P F H a → P F' H' a
theorem PRx.grow {g : G} {W : WX} {σ : L2.St} {α : Type} {P : Hp → Hp → α → Prop} {F H F' H' : Hp} {r : R α} (mo : Mono P) (x : Grow F H F' H') (h : PRx g W σ P F H r) : PRx g W σ P F' H' r := by
  cases r with
  | ok a => exact mo _ _ _ _ a x h
  | exc c => exact fun F2 H2 y => h F2 H2 (x.trans y)
  | bad => exact h
theorem PRx.of {g : G} {W : WX} {σ : L2.St} {α β : Type} {P : Hp → Hp → β → Prop} {F H : Hp} {o : Option α} {f : α → R β} (h : PRx g W σ P F H (R.of o >>= f)) : ∃ a, o = some a ∧ PRx g W σ P F H (f a) := by
  cases o with
  | none => exact h.elim
  | some a => exact ⟨a, rfl, h⟩
theorem PRx.of1 {g : G} {W : WX} {σ : L2.St} {α : Type} {P : Hp → Hp → α → Prop} {F H : Hp} {o : Option α} (h : PRx g W σ P F H (R.of o)) : ∃ a, o = some a ∧ P F H a := by
  cases o with
  | none => exact h.elim
  | some a => exact ⟨a, rfl, h⟩
/-- a value is asked for -/
abbrev PV (g : G) (fr : Bool) (Q : VK) : Hp → Hp → SV → Prop := fun F H s => PoE g F H fr Q s
theorem PV.mono {g : G} {fr : Bool} {Q : VK} : Mono (PV g fr Q) := fun _ _ _ _ _ x h => PoE.grow x h
/-- the weakest readings -/
def WE (X : Cx) (a : Expr) : TE := fun σ H Q => ∀ pins s, Inv X pins σ H s → wpAny (model X.prog X.w) X.A (eval a X.env) (EP X pins σ Q) X.xe s
theorem pe_we {X : Cx} {a : Expr} : PE X a (WE X a) := ⟨fun pins s σ H Q I h => h pins s I⟩
theorem we_of {X : Cx} {a : Expr} {t : TE} {σ : L2.St} {H : Hp} {Q : VK} (h : PE X a t) (q : t σ H Q) : WE X a σ H Q := fun pins s I => h.run pins s σ H Q I q
def WT (X : Cx) (a : Expr) : TT := fun σ H Q => ∀ pins s, Inv X pins σ H s → wpAny (model X.prog X.w) X.A (isTrue a X.env (eval a X.env)) (TP X pins σ Q) X.xe s
theorem pt_wt {X : Cx} {a : Expr} : PT X a (WT X a) := ⟨fun pins s σ H Q I h => h pins s I⟩
theorem wt_of {X : Cx} {a : Expr} {t : TT} {σ : L2.St} {H : Hp} {Q : Bool → Hp → Prop} (h : PT X a t) (q : t σ H Q) : WT X a σ H Q := fun pins s I => h.run pins s σ H Q I q
def WA (X : Cx) (es : List Expr) : TA := fun σ H Q => ∀ pos pins s, Inv X pins σ H s → wpAny (model X.prog X.w) X.A (spliced (backTo pos (starEach es X.env))) (AP X pins σ Q) X.xe s
theorem pa_wa {X : Cx} {es : List Expr} : PA X es (WA X es) := ⟨fun pos pins s σ H Q I h => h pos pins s I⟩
theorem wa_of {X : Cx} {es : List Expr} {t : TA} {σ : L2.St} {H : Hp} {Q : List V → Hp → Prop} (h : PA X es t) (q : t σ H Q) : WA X es σ H Q := fun pos pins s I => h.run pos pins s σ H Q I q

/-- e is what the evaluator says -/
def SE (c : Cc) (a : Expr) (e : E) : Prop := ∀ W X, Okx c W X → ∀ F H ρ σ Q, Sub F H → EnvE c.g F H ρ σ → PRx c.g W σ (PV c.g (fresh e) Q) F H (ev c.Φ e ρ) → WE X a σ H Q
/-- a test's outcome -/
abbrev PT2 (Q : Bool → Hp → Prop) : Hp → Hp → Bool → Prop := fun F H b => ∀ F' H', Grow F H F' H' → Q b H'
theorem PT2.mono {Q : Bool → Hp → Prop} : Mono (PT2 Q) := fun _ _ _ _ _ x h F' H' y => h F' H' (x.trans y)
def ST (c : Cc) (a : Expr) (e : E) : Prop := ∀ W X, Okx c W X → ∀ F H ρ σ Q, Sub F H → EnvE c.g F H ρ σ → PRx c.g W σ (PT2 Q) F H (evB c.Φ e ρ) → WT X a σ H Q
section
variable {c : Cc} {W : WX} {X : Cx} {a : Expr} {e : E} {F H : Hp} {ρ : Env} {σ : L2.St}
theorem SE.go {β : Type} {f : SV → R β} {P : Hp → Hp → β → Prop} {Q : VK} (h : SE c a e) (ok : Okx c W X) (sb : Sub F H) (en : EnvE c.g F H ρ σ) (pr : PRx c.g W σ P F H (ev c.Φ e ρ >>= f))
    (k : ∀ s v F' H' fp, Grow F H F' H' → OwnS c.g F' H' v s fp → (fresh e = true → ∀ a ∈ fp, H a = none) → (∀ a ∈ fp, F' a = none) → fp.Nodup → PRx c.g W σ P F H (f s) → Q v H') : WE X a σ H Q := by
  refine h W X ok F H ρ σ Q sb en ?_
  cases q : ev c.Φ e ρ with
  | ok s =>
    rw [q] at pr
    intro v F' H' fp x o n f nd
    exact k s v F' H' fp x o n f nd pr
  | exc c' => rw [q] at pr; exact pr
  | bad => rw [q] at pr; exact pr.elim
theorem ST.go {β : Type} {f : Bool → R β} {P : Hp → Hp → β → Prop} {Q : Bool → Hp → Prop} (h : ST c a e) (ok : Okx c W X) (sb : Sub F H) (en : EnvE c.g F H ρ σ) (pr : PRx c.g W σ P F H (evB c.Φ e ρ >>= f))
    (k : ∀ b F' H', Grow F H F' H' → PRx c.g W σ P F H (f b) → Q b H') : WT X a σ H Q := by
  refine h W X ok F H ρ σ Q sb en ?_
  cases q : evB c.Φ e ρ with
  | ok s =>
    rw [q] at pr
    intro F' H' x
    exact k s F' H' x pr
  | exc c' => rw [q] at pr; exact pr
  | bad => rw [q] at pr; exact pr.elim
theorem evB_eq (Φ : Phi) (e : E) (ρ : Env) : evB Φ e ρ = (ev Φ e ρ >>= boolS) := rfl
theorem boolS_ok {s : SV} {b : Bool} (h : boolS s = .ok b) : s = fz (.bl b) := by
  unfold boolS at h
  split at h
  · cases h; rfl
  · cases h
/-- a value that is a bool -/
theorem own_bool {g : G} {v : V} {s : SV} {fp : List Addr} {α : Type} {P : Hp → Hp → α → Prop} {f : Bool → R α} (o : OwnS g F H v s fp) {F0 H0 : Hp} (pr : PRx g W σ P F0 H0 (boolS s >>= f)) : ∃ b, v = .bl b ∧ PRx g W σ P F0 H0 (f b) := by
  cases q : boolS s with
  | ok b =>
    rw [q] at pr
    rw [boolS_ok q] at o
    exact ⟨b, own_bl o, pr⟩
  | exc c' =>
    unfold boolS at q
    split at q <;> cases q
  | bad => rw [q] at pr; exact pr.elim
theorem fr_cases {e : E} {s : SV} {d : D} (h : fr e s = some d) : s = fz d ∨ (fresh e = true ∧ s.view = d) := by
  unfold fr at h
  split at h
  · cases Option.some.inj h
    exact .inl rfl
  · split at h
    · rename_i fe
      exact .inr ⟨fe, Option.some.inj h⟩
    · cases h
/-- kept: frozen -/
theorem keep_fr {g : G} {F' H' : Hp} {v : V} {s : SV} {fp : List Addr} {d : D} (sb : Sub F H) (x : Grow F H F' H') (o : OwnS g F' H' v s fp) (n : fresh e = true → ∀ a ∈ fp, H a = none) (f : ∀ a ∈ fp, F' a = none) (h : fr e s = some d) : ∃ F2, Grow F H F2 H' ∧ Rep g F2 v d := by
  have frz : fresh e = true → s.view = d → ∃ F2, Grow F H F2 H' ∧ Rep g F2 v d := fun fe ed => by
    refine ⟨_, x.frz (as := fp) (n fe) (fun a ha u hu o' v' ez => ?_), ?_⟩
    · obtain ⟨o2, h1, h2⟩ := o.fp_some a ha
      rw [hu] at h1
      exact h2 o' v' ((Option.some.inj h1).symm.trans ez)
    · rw [← ed]
      refine o.frozen (fun a u hu => ?_) fun a ha => by simp only [ha, if_true]
      have na : a ∉ fp := fun z => by rw [f a z] at hu; cases hu
      simp only [na, if_false]
      exact hu
  rcases fr_cases h with h0 | ⟨h1, h2⟩
  · rw [h0] at o
    exact ⟨F', x, own_fz o⟩
  · exact frz h1 h2
end
/-! ### heads of expressions -/
/-- no star, no slice, no set, no super() -/
def okH : Expr → Bool
  | .Starred _ _ => false
  | .Slice _ _ _ _ => false
  | .Set _ _ _ => false
  | .Call (.Name id _) [] [] _ => !(id == ("super" : Str))
  | _ => true
theorem okH_star {a : Expr} (h : okH a = true) (es : List Expr) (env : PySem.Env) : starEach (a :: es) env = (false, eval a env) :: starEach es env := by
  cases a <;> first | rfl | (simp [okH] at h; done)
theorem okH_ix {a : Expr} (h : okH a = true) : PlainIx a := by
  intro o i
  cases a <;> first | rfl | (simp [okH] at h; done)
theorem okH_marks {a : Expr} (h : okH a = true) (op : CmpOp) : behindInMarks op a = false := by
  cases a <;> first | rfl | (simp [okH] at h; done)
theorem okH_fold {a : Expr} (h : okH a = true) (env : PySem.Env) (x : Value) : foldedSetIterable a env x = pure x := by
  cases a <;> first | rfl | (simp [okH] at h; done)
theorem okH_base {a : Expr} (h : okH a = true) (n : Str) (env : PySem.Env) (w : Sem Value) : attributeBase a n env w = w := by
  unfold attributeBase
  split
  · rename_i id p1 pos
    have : (id == ("super" : Str)) = false := by
      unfold okH at h
      simpa using h
    have h2 : (id != ("super" : Str)) = true := by simp [bne, this]
    rw [h2]
    rfl
  · rfl
end Pd

end
section
set_option linter.all false
set_option autoImplicit false
set_option Elab.async false
set_option maxRecDepth 100000
/-! Pd.Snd2: expressions. -/
namespace Pd
open PySem PySem.Spec PyProof.Rows L2

abbrev PL (g : G) (Qs : List V → Hp → Prop) : Hp → Hp → List D → Prop := fun F H ds => ∀ vs F' H', Grow F H F' H' → Reps g F' vs ds → Qs vs H'
abbrev PB (g : G) (Qs : List V → Hp → Prop) : Hp → Hp → List SV → Prop := fun F H ss => ∀ vs F' H', Grow F H F' H' → OwnSs g F' H' vs ss → Qs vs H'
theorem PL.mono {g : G} {Qs : List V → Hp → Prop} : Mono (PL g Qs) := fun _ _ _ _ _ x h vs F' H' y => h vs F' H' (x.trans y)
theorem PB.mono {g : G} {Qs : List V → Hp → Prop} : Mono (PB g Qs) := fun _ _ _ _ _ x h vs F' H' y => h vs F' H' (x.trans y)
/-- kept values -/
def SA (c : Cc) (as : List Expr) (es : List E) : Prop := ∀ W X, Okx c W X → ∀ F H ρ σ Qs, Sub F H → EnvE c.g F H ρ σ → PRx c.g W σ (PL c.g Qs) F H (evs c.Φ es ρ) → WA X as σ H Qs
/-- values that are looked at -/
def SB (c : Cc) (as : List Expr) (es : List E) : Prop := ∀ W X, Okx c W X → ∀ F H ρ σ Qs, Sub F H → EnvE c.g F H ρ σ → PRx c.g W σ (PB c.g Qs) F H (evb c.Φ es ρ) → WA X as σ H Qs
section
variable {c : Cc} {a b : Expr} {as : List Expr} {e f : E} {es : List E} {pos : Pos}
theorem sa_nil : SA c [] [] := fun W X ok F H ρ σ Qs sb en pr => wa_of pa_nil (show Qs [] H from pr [] F H (Grow.refl sb) .nil)
theorem sa_cons (h1 : SE c a e) (ha : okH a = true) (h2 : SA c as es) : SA c (a :: as) (e :: es) := fun W X ok F H ρ σ Qs sb en pr => by
  refine wa_of (pa_cons pe_we pa_wa (okH_star ha _ _)) ?_
  refine h1.go ok sb en pr fun s v F' H' fp x o n fn nd pr => ?_
  obtain ⟨d, ed, pr⟩ := PRx.of pr
  obtain ⟨F2, x2, r⟩ := keep_fr sb x o n fn ed
  refine h2 W X ok F2 H' ρ σ _ x2.sub (en.grow sb x2) ?_
  have pr2 := PRx.grow PL.mono x2 pr
  cases q : evs c.Φ es ρ with
  | ok ds =>
    rw [q] at pr2
    intro vs F3 H3 y rs
    exact pr2 (v :: vs) F3 H3 y (.cons (Rep.mono (y.same x2.sub) d r) rs)
  | exc c' => rw [q] at pr2; exact pr2
  | bad => rw [q] at pr2; exact pr2.elim
theorem sb_nil : SB c [] [] := fun W X ok F H ρ σ Qs sb en pr => wa_of pa_nil (show Qs [] H from pr [] F H (Grow.refl sb) .nil)
theorem sb_cons (h1 : SE c a e) (ha : okH a = true) (h2 : SB c as es) : SB c (a :: as) (e :: es) := fun W X ok F H ρ σ Qs sb en pr => by
  refine wa_of (pa_cons pe_we pa_wa (okH_star ha _ _)) ?_
  refine h1.go ok sb en pr fun s v F' H' fp x o n fn nd pr => ?_
  refine h2 W X ok F' H' ρ σ _ x.sub (en.grow sb x) ?_
  have pr2 := PRx.grow PB.mono x pr
  cases q : evb c.Φ es ρ with
  | ok ds =>
    rw [q] at pr2
    intro vs F3 H3 y rs
    exact pr2 (v :: vs) F3 H3 y (.cons (o.grow x.sub y) rs)
  | exc c' => rw [q] at pr2; exact pr2
  | bad => rw [q] at pr2; exact pr2.elim
/-- from kept values on -/
theorem SA.go {β : Type} {W : WX} {X : Cx} {F H : Hp} {ρ : Env} {σ : L2.St} {k : List D → R β} {P : Hp → Hp → β → Prop} {Qs : List V → Hp → Prop} (h : SA c as es) (ok : Okx c W X) (sb : Sub F H) (en : EnvE c.g F H ρ σ) (mo : Mono P) (pr : PRx c.g W σ P F H (evs c.Φ es ρ >>= k))
    (hk : ∀ ds vs F' H', Grow F H F' H' → Reps c.g F' vs ds → PRx c.g W σ P F' H' (k ds) → Qs vs H') : WA X as σ H Qs := by
  refine h W X ok F H ρ σ Qs sb en ?_
  cases q : evs c.Φ es ρ with
  | ok ds =>
    rw [q] at pr
    intro vs F' H' x r
    exact hk ds vs F' H' x r (PRx.grow mo x pr)
  | exc c' => rw [q] at pr; exact pr
  | bad => rw [q] at pr; exact pr.elim
theorem SB.go {β : Type} {W : WX} {X : Cx} {F H : Hp} {ρ : Env} {σ : L2.St} {k : List SV → R β} {P : Hp → Hp → β → Prop} {Qs : List V → Hp → Prop} (h : SB c as es) (ok : Okx c W X) (sb : Sub F H) (en : EnvE c.g F H ρ σ) (mo : Mono P) (pr : PRx c.g W σ P F H (evb c.Φ es ρ >>= k))
    (hk : ∀ ds vs F' H', Grow F H F' H' → OwnSs c.g F' H' vs ds → PRx c.g W σ P F' H' (k ds) → Qs vs H') : WA X as σ H Qs := by
  refine h W X ok F H ρ σ Qs sb en ?_
  cases q : evb c.Φ es ρ with
  | ok ds =>
    rw [q] at pr
    intro vs F' H' x r
    exact hk ds vs F' H' x r (PRx.grow mo x pr)
  | exc c' => rw [q] at pr; exact pr
  | bad => rw [q] at pr; exact pr.elim

theorem evs_len {Φ : Phi} {ρ : Env} : ∀ {es : List E} {ds : List D}, evs Φ es ρ = .ok ds → ds.length = es.length
  | [], ds, h => by unfold evs at h; cases h; rfl
  | e :: es, ds, h => by
    unfold evs at h
    cases q : ev Φ e ρ with
    | ok s =>
      rw [q] at h
      cases q2 : fr e s with
      | none => simp only [R.ok_bind, q2, R.of_none, R.bad_bind] at h; cases h
      | some d =>
        simp only [R.ok_bind, q2, R.of_some] at h
        cases q3 : evs Φ es ρ with
        | ok dd =>
          rw [q3] at h
          simp only [R.ok_bind] at h
          cases h
          rw [List.length_cons, List.length_cons, evs_len q3]
        | exc c' => rw [q3] at h; cases h
        | bad => rw [q3] at h; cases h
    | exc c' => rw [q] at h; cases h
    | bad => rw [q] at h; cases h
theorem SA.goL {β : Type} {W : WX} {X : Cx} {F H : Hp} {ρ : Env} {σ : L2.St} {k : List D → R β} {P : Hp → Hp → β → Prop} {Qs : List V → Hp → Prop} (h : SA c as es) (ok : Okx c W X) (sb : Sub F H) (en : EnvE c.g F H ρ σ) (mo : Mono P) (pr : PRx c.g W σ P F H (evs c.Φ es ρ >>= k))
    (hk : ∀ ds vs F' H', Grow F H F' H' → Reps c.g F' vs ds → ds.length = es.length → PRx c.g W σ P F' H' (k ds) → Qs vs H') : WA X as σ H Qs := by
  refine h W X ok F H ρ σ Qs sb en ?_
  cases q : evs c.Φ es ρ with
  | ok ds =>
    rw [q] at pr
    intro vs F' H' x r
    exact hk ds vs F' H' x r (evs_len q) (PRx.grow mo x pr)
  | exc c' => rw [q] at pr; exact pr
  | bad => rw [q] at pr; exact pr.elim
/-! ### literals, names, displays -/
theorem se_int {i : Int} {j : Nat} : SE c (.Constant (.int i) j pos) (.lit (.int i)) := fun W X ok F H ρ σ Q sb en pr => we_of pe_int (PoE.pure pr sb (.int _))
theorem se_bl {i : Bool} {j : Nat} : SE c (.Constant (.bool i) j pos) (.lit (.bl i)) := fun W X ok F H ρ σ Q sb en pr => we_of pe_bl (PoE.pure pr sb (.bl _))
theorem se_non {j : Nat} : SE c (.Constant .none j pos) (.lit .non) := fun W X ok F H ρ σ Q sb en pr => we_of pe_non (PoE.pure pr sb .non)
theorem se_str {x : List Nat} {j : Nat} (hx : x.length ≤ lim) : SE c (.Constant (.str (strN x)) j pos) (.lit (.str x)) := fun W X ok F H ρ σ Q sb en pr => we_of pe_str (PoE.pure pr sb (.str _ (by rw [← lim_eq]; exact hx)))
theorem se_con {x : Str} {d : D} (h : (x, d) ∈ c.g.p.cons) (hg : c.sc.names.lookup x = some .globalImplicit) (hd : (x == ("__debug__" : Str)) = false) : SE c (.Name x pos) (.lit d) := fun W X ok F H ρ σ Q sb en pr => by
  obtain ⟨u, v, h1, h2, h3⟩ := ok.lib.con x d h
  exact we_of (pe_glob (v := v) (by show X.env.scope.names.lookup x = _; rw [ok.sc]; exact hg) (by rw [ok.mg]; exact h1) h2 hd) (PoE.pure pr sb (h3 F))
theorem se_var {i : Nat} {x : Str} (hi : c.N[i]? = some x) (hv : Vis c.sc x) (hd : (x == ("__debug__" : Str)) = false) (hcd : (x == ("__classdict__" : Str)) = false) : SE c (.Name x pos) (.var i) := fun W X ok F H ρ σ Q sb en pr => by
  refine we_of (pe_var (i := i) (by rw [ok.N]; exact hi) (by rw [ok.sc]; exact hv) hd hcd) ?_
  unfold ev at pr
  split at pr
  · rename_i s es
    obtain ⟨v, fp, h1, h2, h3, h4⟩ := en.2 i s es
    exact ⟨v, h1, pr v F H fp (Grow.refl sb) h2 (fun z => nomatch z) h3 h4⟩
  · exact pr.elim
theorem mkT_some {ds : List D} {s : SV} (h : mkT ds = some s) : ds.length ≤ sizeLine ∧ s = fz (.tup ds) := by
  unfold mkT at h
  split at h
  · rename_i z
    exact ⟨by rw [← lim_eq]; exact z, (Option.some.inj h).symm⟩
  · cases h
theorem mkL_some {ds : List D} {s : SV} (h : mkL ds = some s) : ds.length ≤ sizeLine ∧ s = oL ds := by
  unfold mkL at h
  split at h
  · rename_i z
    exact ⟨by rw [← lim_eq]; exact z, (Option.some.inj h).symm⟩
  · cases h
theorem se_tup {k : Nat} (h : SA c as es) : SE c (.Tuple as k pos) (.tup es) := fun W X ok F H ρ σ Q sb en pr => by
  refine we_of (pe_tup pa_wa) ?_
  refine h.go ok sb en PV.mono (by unfold ev at pr; exact pr) fun ds vs F' H' x r pr => ?_
  obtain ⟨s, es, q⟩ := PRx.of1 pr
  obtain ⟨hz, rfl⟩ := mkT_some es
  exact ⟨by rw [r.length]; exact hz, fun p hp => PoE.newT q x.sub hp r (by rw [r.length]; exact hz)⟩
theorem se_lst (h : SA c as es) : SE c (.List as pos) (.lst es) := fun W X ok F H ρ σ Q sb en pr => by
  refine we_of (pe_lst pa_wa) ?_
  refine h.go ok sb en PV.mono (by unfold ev at pr; exact pr) fun ds vs F' H' x r pr => ?_
  obtain ⟨s, es, q⟩ := PRx.of1 pr
  obtain ⟨hz, rfl⟩ := mkL_some es
  exact ⟨by rw [r.length]; exact hz, fun p hp => PoE.newL q x.sub hp r (by rw [r.length]; exact hz)⟩
theorem pe_dnew {X : Cx} : PE X (.Dict [] [] pos) (fun _ H Q => ∀ p, H p = none → Q (.ref p) (upd H p (dictHO p []))) := ⟨fun pins s σ H Q I h => by
  have hb : (s.heap.objs.size == sysModules) = false := beq_eq_false_iff_ne.mpr (Ne.symm (Nat.ne_of_lt I.big))
  refine wpAny_Dict_empty ⟨.ref s.heap.objs.size, _, I.laid (a := s.heap.objs.size) (o := dictHO s.heap.objs.size []) (t' := s.toks) (fun _ _ q => Heap.get?_push_of_some _ q) (Nat.le_refl _) ?_, rfl, h _ (I.hok.fresh (Nat.le_refl _))⟩
  exact DictAt.ok ⟨Nat.zero_le _, hb, _, #[], 0, Heap.get?_push_size _ rfl, ⟨rfl, rfl, rfl⟩, rfl, .nil⟩⟩
theorem se_dnew : SE c (.Dict [] [] pos) .dnew := fun W X ok F H ρ σ Q sb en pr => by
  refine we_of pe_dnew fun p hp => ?_
  unfold ev at pr
  refine pr (.ref p) F (upd H p (dictHO p [])) [p] (Grow.own sb hp) ⟨p, [], rfl, rfl, upd_same, Nat.zero_le _, .nil, .nil, rfl, rfl, .nil⟩ (fun _ a ha => by cases List.mem_singleton.mp ha; exact hp) (fun a ha => by cases List.mem_singleton.mp ha; exact sb.none hp) (by simp)
/-! ### operators -/
theorem se_bin {o : Bop} (h1 : SE c a e) (h2 : SE c b f) : SE c (.BinOp a (opOf o) b pos) (.bin o e f) := fun W X ok F H ρ σ Q sb en pr => by
  refine we_of (pe_op (op_binS ok.std o) pe_we pe_we) ?_
  unfold ev at pr
  refine h1.go ok sb en pr fun s v F1 H1 fp x o1 n f1 nd pr => ?_
  refine h2.go ok x.sub (en.grow sb x) (PRx.grow PV.mono x pr) fun s2 v2 F2 H2 fp2 x2 o2 n2 f2 nd2 pr => ?_
  obtain ⟨z, ez, q⟩ := PRx.of1 pr
  have o1' := o1.grow x.sub x2
  refine ⟨F2, s, s2, fp, fp2, z, x2.sub, o1', o2, fun a ha => ?_, f2, ez, PoE.grow x2 q⟩
  obtain ⟨ob, ho, _⟩ := o1.fp_some a ha
  rw [(x2.keep a ob ho).2]
  exact f1 a ha
theorem se_neg (h1 : SE c a e) : SE c (.UnaryOp .USub a pos) (.neg e) := fun W X ok F H ρ σ Q sb en pr => by
  refine we_of (pe_un un_neg pe_we) ?_
  unfold ev at pr
  refine h1.go ok sb en pr fun s v F1 H1 fp x o1 n f1 nd pr => ?_
  split at pr
  · rename_i i
    exact ⟨i, own_int o1, PoE.val pr x (.int _)⟩
  · exact pr.elim
theorem se_not (h1 : SE c a e) : SE c (.UnaryOp .Not a pos) (.not e) := fun W X ok F H ρ σ Q sb en pr => by
  refine we_of (pe_not pe_we) ?_
  unfold ev at pr
  refine h1.go ok sb en pr fun s v F1 H1 fp x o1 n f1 nd pr => ?_
  obtain ⟨b, rfl, pr⟩ := own_bool o1 pr
  exact ⟨b, rfl, PoE.val pr x (.bl _)⟩
theorem se_cmp {o : Cop} (h1 : SE c a e) (h2 : SE c b f) (hb : okH b = true) : SE c (.Compare a [copOf o] [b] pos) (.cmp o e f) := fun W X ok F H ρ σ Q sb en pr => by
  refine we_of (pe_cmpR (op_cmpS ok.std o) pe_we pe_we (okH_marks hb _)) ?_
  unfold ev at pr
  refine h1.go ok sb en pr fun s v F1 H1 fp x o1 n f1 nd pr => ?_
  refine h2.go ok x.sub (en.grow sb x) (PRx.grow PV.mono x pr) fun s2 v2 F2 H2 fp2 x2 o2 n2 f2 nd2 pr => ?_
  obtain ⟨z, ez, q⟩ := PRx.of pr
  exact ⟨F2, s, s2, fp, fp2, z, x2.sub, o1.grow x.sub x2, o2, ez, PoE.val q x2 (.bl _)⟩
theorem lastMarks2 {o p : CmpOp} (h : okH b = true) : lastMarks [o, p] [a, b] = false := okH_marks h p
theorem se_chain {o p : Cop} {d : Expr} {k : E} (h1 : SE c a e) (h2 : SE c b f) (h3 : SE c d k) (hd : okH d = true) : SE c (.Compare a [copOf o, copOf p] [b, d] pos) (.chain o p e f k) := fun W X ok F H ρ σ Q sb en pr => by
  refine we_of (pe_chain (op_cmpS ok.std o) (op_cmpS ok.std p) pe_we pe_we pe_we (lastMarks2 hd)) ?_
  unfold ev at pr
  refine h1.go ok sb en pr fun s v F1 H1 fp x o1 n f1 nd pr => ?_
  refine h2.go ok x.sub (en.grow sb x) (PRx.grow PV.mono x pr) fun s2 v2 F2 H2 fp2 x2 o2 n2 f2 nd2 pr => ?_
  obtain ⟨z, ez, pr⟩ := PRx.of pr
  refine ⟨F2, s, s2, fp, fp2, z, x2.sub, o1.grow x.sub x2, o2, ez, z, rfl, ?_⟩
  have pr2 := PRx.grow PV.mono x2 pr
  split at pr2
  · rename_i c1
    rw [if_pos c1]
    refine h3.go ok x2.sub ((en.grow sb x).grow x.sub x2) pr2 fun s3 v3 F3 H3 fp3 x3 o3 n3 f3 nd3 pr => ?_
    obtain ⟨z2, ez2, q⟩ := PRx.of pr
    exact ⟨F3, s2, s3, fp2, fp3, z2, x3.sub, o2.grow x2.sub x3, o3, ez2, PoE.val q x3 (.bl _)⟩
  · rename_i c1
    rw [if_neg c1]
    exact PoE.pure pr2 x2.sub (.bl _)
theorem se_and (h1 : SE c a e) {rest : List Expr} (h2 : SE c (.BoolOp .And (b :: rest) pos) f) : SE c (.BoolOp .And (a :: b :: rest) pos) (.and e f) := fun W X ok F H ρ σ Q sb en pr => by
  refine we_of (pe_and pe_we pe_we) ?_
  unfold ev at pr
  refine h1.go ok sb en pr fun s v F1 H1 fp x o1 n f1 nd pr => ?_
  obtain ⟨b, rfl, pr⟩ := own_bool o1 pr
  refine ⟨b, rfl, ?_⟩
  have pr2 := PRx.grow PV.mono x pr
  split at pr2
  · rename_i c1
    rw [if_pos c1]
    exact h2 W X ok F1 H1 ρ σ Q x.sub (en.grow sb x) pr2
  · rename_i c1
    rw [if_neg c1]
    exact PoE.pure pr2 x.sub (.bl _)
theorem se_or (h1 : SE c a e) {rest : List Expr} (h2 : SE c (.BoolOp .Or (b :: rest) pos) f) : SE c (.BoolOp .Or (a :: b :: rest) pos) (.or e f) := fun W X ok F H ρ σ Q sb en pr => by
  refine we_of (pe_or pe_we pe_we) ?_
  unfold ev at pr
  refine h1.go ok sb en pr fun s v F1 H1 fp x o1 n f1 nd pr => ?_
  obtain ⟨b, rfl, pr⟩ := own_bool o1 pr
  refine ⟨b, rfl, ?_⟩
  have pr2 := PRx.grow PV.mono x pr
  split at pr2
  · rename_i c1
    rw [if_pos c1]
    exact PoE.pure pr2 x.sub (.bl _)
  · rename_i c1
    rw [if_neg c1]
    exact h2 W X ok F1 H1 ρ σ Q x.sub (en.grow sb x) pr2
theorem se_one {op : BoolOp} (h1 : SE c a e) : SE c (.BoolOp op [a] pos) e := fun W X ok F H ρ σ Q sb en pr => we_of (pe_one pe_we) (h1 W X ok F H ρ σ Q sb en pr)
end
end Pd

end
section
set_option linter.all false
set_option autoImplicit false
set_option Elab.async false
set_option maxRecDepth 100000
/-! Pd.Rvt: xs[::-1] of a list, of a tuple. -/
namespace Pd
open PySem PySem.Spec PyProof.Rows L2
theorem adjust_back (n : Nat) : Builtin.Slice.sliceAdjust none none (-1) (n : Int) = ((n : Int) - 1, -1) := rfl
theorem places_back (n : Nat) : Builtin.Slice.slicePlaces ((n : Int) - 1) (-1) (-1) = n := by
  unfold Builtin.Slice.slicePlaces
  rw [if_neg (show ¬ ((-1 : Int) > 0) by omega)]
  by_cases c : (n : Int) - 1 > -1
  · rw [if_pos c]
    show (((n : Int) - 1 - -1 - 1) / 1 + 1).toNat = n
    rw [Int.ediv_one]
    omega
  · rw [if_neg c]
    omega
theorem fm_congr {α β : Type} {f g : α → Option β} : ∀ {xs : List α}, (∀ x ∈ xs, f x = g x) → xs.filterMap f = xs.filterMap g
  | [], _ => rfl
  | x :: xs, h => by rw [List.filterMap_cons, List.filterMap_cons, h x List.mem_cons_self, fm_congr fun y hy => h y (List.mem_cons_of_mem _ hy)]
theorem pick_back (xs : Array Value) : ((List.range xs.size).filterMap fun (k : Nat) => xs[(((xs.size : Int) - 1) + (k : Int) * -1).toNat]?).toArray = xs.toList.reverse.toArray := by
  congr 1
  have key : ∀ l : List Value, (List.range l.length).filterMap (fun k : Nat => l[(((l.length : Int) - 1) + (k : Int) * -1).toNat]?) = l.reverse := by
    intro l
    have e : (List.range l.length).filterMap (fun k : Nat => l[(((l.length : Int) - 1) + (k : Int) * -1).toNat]?) = (List.range l.length).filterMap (fun k : Nat => l.reverse[k]?) := by
      refine fm_congr fun k hk => ?_
      have hk := List.mem_range.mp hk
      rw [List.getElem?_reverse hk, show (((l.length : Int) - 1) + (k : Int) * -1).toNat = l.length - 1 - k by omega]
    rw [e]
    have all : ∀ m : List Value, (List.range m.length).filterMap (fun k : Nat => m[k]?) = m := by
      intro m
      induction m with
      | nil => rfl
      | cons x t ih =>
        rw [List.length_cons, List.range_succ_eq_map, List.filterMap_cons]
        show x :: List.filterMap _ _ = _
        rw [List.filterMap_map]
        congr 1
    have := all l.reverse
    rw [List.length_reverse] at this
    exact this
  have := key xs.toList
  simp only [Array.length_toList] at this
  rw [← this]
  congr 1
  funext k
  simp
section
variable {prog : Program} {w : World} {A : Around} {E : Value → Shared → Prop} {s : Shared}
theorem applied_back {sl : Addr} {t : Tok} {n : Nat} {Q : Int × Int × Nat → Shared → Prop} (hs : s.heap.IsSliceOf sl .none .none (.int (-1) t)) (h : Q ((n : Int) - 1, -1, n) s) : wpAny (model prog w) A (Builtin.Slice.sliceApplied (.ref sl) (pure (n : Int))) Q E s := by
  obtain ⟨os, hos, _, hds⟩ := id hs
  unfold Builtin.Slice.sliceApplied Builtin.Slice.sliceFields
  refine wpAny_bind (wpAny_bind (wpAny_field hos hds (x := .none) rfl (wpAny_bind (wpAny_field hos hds (x := .none) rfl (wpAny_bind (wpAny_field hos hds (x := .int (-1) t) rfl (wpAny_pure ?_)))))))
  refine wpAny_bind (HT.slicePart_ (.int (-1) t) ?_)
  show wpAny _ _ (if ((-1 : Int) == 0) = true then _ else _) _ _ s
  rw [if_neg (by decide)]
  refine wpAny_bind (HT.slicePart_ .none (wpAny_bind (HT.slicePart_ .none (wpAny_bind (wpAny_pure ?_)))))
  show wpAny _ _ (match Builtin.Slice.sliceAdjust none none (-1) (n : Int) with | (lo, hi) => pure (lo, (-1 : Int), Builtin.Slice.slicePlaces lo hi (-1))) _ _ s
  rw [adjust_back n]
  show wpAny _ _ (pure ((n : Int) - 1, (-1 : Int), Builtin.Slice.slicePlaces ((n : Int) - 1) (-1) (-1))) _ _ s
  rw [places_back]
  exact wpAny_pure h
theorem getItem_tuple_back {t sl : Addr} {u : Tok} {items : Array Value} {Q : Value → Shared → Prop} (ht : IsTup s.heap t items) (hs : s.heap.IsSliceOf sl .none .none (.int (-1) u))
    (h : Q (.ref s.heap.objs.size) { s with heap := s.heap.push { cls := .type "tuple", data := .seq items.toList.reverse.toArray } }) (hsz : items.size ≤ sizeLine) : wpAny (model prog w) A (getItem (.ref t) (.ref sl)) Q E s := by
  have fits : sizeOk (.seq items.toList.reverse.toArray) := by
    show items.toList.reverse.toArray.size ≤ sizeLine
    simpa using hsz
  obtain ⟨os, hos, hcs, _⟩ := id hs
  unfold getItem
  try with_reducible refine wpAny_holding ?_
  first | refine wpAny_bind (wpAny_pure ?_) | skip
  refine wpAny_bind (wpAny_sequenceKey ht.typeIs (by decide) (wpAny_bind (wpAny_callSpecial?_slot (name := Str.ofString "__getitem__") ht.typeIs PyProof.Rows.slot_tuple_getitem (wpAny_call_entry PyProof.Rows.slot_tuple_getitem ht.typeIs entry_tuple_getitem ?_ (args_tuple_getitem _ _)))))
  show wpAny _ _ (Builtin.Tuple.tupleItemsOf (.ref t) >>= _) _ _ s
  refine wpAny_bind (tupleItemsOf_ ht (wpAny_bind (wpAny_typeOf ⟨os, hos, hcs⟩ ?_)))
  rw [if_pos (by decide)]
  refine wpAny_bind (applied_back hs ?_)
  have no : ¬ ((((items.size : Int) - 1) == 0 && (-1 : Int) == 1 && items.size == items.size) = true) := by simp
  show wpAny _ _ (if (((items.size : Int) - 1) == 0 && (-1 : Int) == 1 && items.size == items.size) = true then _ else _) _ _ s
  rw [if_neg no, pick_back]
  first
    | exact wpAny_bind (m := Builtin.Tuple.tupleExact _) (wpAny_newObj_type (wpAny_pure ⟨_, rfl, wpAny_pure h⟩) fits)
    | exact wpAny_bind (m := Builtin.Tuple.tupleExact _) (wpAny_newObj_type (wpAny_bind (wpAny_pure (wpAny_pure ⟨_, rfl, wpAny_pure h⟩))) fits)
end
def tRevA (K : PySem.W.Frag) (te : TE) : TE := fun σ H Q => te σ H fun x H1 => ∃ a xs, x = .ref a ∧ ((SqL K H1 a xs ∧ ∀ p, H1 p = none → Q (.ref p) (upd H1 p (.lst xs.reverse))) ∨ (SqT K H1 a xs ∧ ∀ p, H1 p = none → Q (.ref p) (upd H1 p (.tup xs.reverse))))
theorem pe_revA {X : Cx} {e : Expr} {te : TE} {k : Nat} {p1 p2 p3 pos : Pos} (he : PE X e te) : PE X (.Subscript e (.Slice none none (some (.UnaryOp .USub (.Constant (.int 1) k p1) p2)) p3) pos) (tRevA X.K te) := by
  refine ⟨fun pins s σ H Q I h => Subscript_ (thn (he.run pins s σ H _ I h) fun v s1 ⟨x, H1, I1, r1, q1⟩ => ?_)⟩
  obtain ⟨a, xs, rfl, q⟩ := q1
  cases r1
  have st : PO X (some (.UnaryOp .USub (.Constant (.int 1) k p1) p2)) (tPart (tUn (rU fun i => .int (-i)) (tC (.int 1)))) := po_some (pe_un un_neg pe_int)
  refine wpAny_Slice (thn (po_none.run pins s1 σ H1 (fun o H2 => o = none ∧ H2 = H1) I1 ⟨rfl, rfl⟩) fun vl s2 ⟨l, H2, I2, pl, el, e2⟩ => ?_)
  subst el e2
  refine thn (po_none.run pins s2 σ H2 (fun o H3 => o = none ∧ H3 = H2) I2 ⟨rfl, rfl⟩) fun vu s3 ⟨u, H3, I3, pu, eu, e3⟩ => ?_
  subst eu e3
  refine thn (st.run pins s3 σ H3 (fun o H4 => o = some (-1) ∧ H4 = H3) I3 ⟨1, rfl, -1, rfl, rfl, rfl⟩) fun vs s4 ⟨o, H4, I4, ps, eo, e4⟩ => ?_
  subst eo e4
  have I5 : Inv X pins σ H4 { s4 with heap := s4.heap.push { cls := .type "slice", data := .fields #[vl, vu, vs] } } := I4.kept (t' := s4.toks) fun b ob z => Heap.get?_push_of_some _ z
  show wpAny (model X.prog X.w) X.A (subscriptTail e (.Slice none none (some (.UnaryOp .USub (.Constant (.int 1) k p1) p2)) p3) (.ref a) (.ref s4.heap.objs.size)) (EP X pins σ Q) X.xe _
  rcases q with ⟨hx, q⟩ | ⟨hx, q⟩
  · obtain ⟨its, r, ht, hz⟩ := I5.list hx
    have len := r.length
    refine tail_any (ops := [.ref a, .ref s4.heap.objs.size]) ht.isList.typeIs (PySem.slot_list_getitem.lookup) ?_ (by with_unfolding_all rfl)
    refine wpAny_getItem_list_slice ht.isList (Heap.IsSliceOf.new _ vl vu vs) pl pu ps (by decide) ?_ (by rw [List.size_toArray]; omega)
    rw [PySem.W.krv_pick]
    refine ⟨.ref _, _, I5.laid (t' := s4.toks) (o := .lst xs.reverse) (fun b ob z => Heap.get?_push_of_some _ z) (Nat.le_refl _) ?_, rfl, q _ (I5.hok.fresh (Nat.le_refl _))⟩
    exact ⟨by rw [List.length_reverse]; exact hz, _, 0, r.reverse, Heap.get?_push_size _ rfl⟩
  · obtain ⟨its, r, ht, hz⟩ := I5.tuple hx
    have len := r.length
    cases pl
    cases pu
    cases ps
    rename_i tk
    refine tail_any (ops := [.ref a, .ref s4.heap.objs.size]) ht.typeIs (PyProof.Rows.slot_tuple_getitem.lookup) ?_ (by with_unfolding_all rfl)
    refine getItem_tuple_back ht (Heap.IsSliceOf.new ..) ?_ (by rw [List.size_toArray]; omega)
    refine ⟨.ref _, _, I5.laid (t' := s4.toks) (o := .tup xs.reverse) (fun b ob z => Heap.get?_push_of_some _ z) (Nat.le_refl _) ?_, rfl, q _ (I5.hok.fresh (Nat.le_refl _))⟩
    exact ⟨by rw [List.length_reverse]; exact hz, _, r.reverse, IsTup.new _ _⟩
end Pd

end
section
set_option linter.all false
set_option autoImplicit false
set_option Elab.async false
set_option maxRecDepth 100000
/-! Pd.Snd3: attributes, subscripts, calls. -/
namespace Pd
open PySem PySem.Spec PyProof.Rows L2
section
variable {c : Cc} {a b : Expr} {as : List Expr} {e f : E} {es : List E} {pos : Pos}
theorem fld_inj {g : G} (lb : Lib g) {i : Nat} (h : i < g.p.flds.length) : ∀ j, g.p.fld i = g.p.fld j → i = j := fun j q => by
  obtain ⟨nd, ne⟩ := lb.fld
  have e1 : g.p.flds[i]? = some (g.p.fld i) := by
    unfold PrS.fld
    rw [List.getD_eq_getElem?_getD, List.getElem?_eq_getElem h]
    rfl
  by_cases hj : j < g.p.flds.length
  · have e2 : g.p.flds[j]? = some (g.p.fld j) := by
      unfold PrS.fld
      rw [List.getD_eq_getElem?_getD, List.getElem?_eq_getElem hj]
      rfl
    rw [q] at e1
    exact nodup_ix nd e1 e2
  · exfalso
    have e2 : g.p.fld j = Str.empty := by
      unfold PrS.fld
      rw [List.getD_eq_getElem?_getD, List.getElem?_eq_none_iff.mpr (by omega)]
      rfl
    rw [q, e2] at e1
    exact ne (List.mem_of_getElem? e1)
theorem ite_ok (h1 : ST c a e) {x : Expr} {k : E} (h2 : SE c b f) (h3 : SE c x k) : SE c (.IfExp a b x pos) (.ite e f k) := fun W X ok F H ρ σ Q sb en pr => by
  refine we_of (pe_ifExp pt_wt pe_we pe_we) ?_
  have pr : PRx c.g W σ (PV c.g (fresh (.ite e f k)) Q) F H (evB c.Φ e ρ >>= fun t => if t then ev c.Φ f ρ else ev c.Φ k ρ) := by
    unfold ev at pr
    rw [evB_eq]
    cases q : ev c.Φ e ρ with
    | ok s => rw [q] at pr; exact pr
    | exc c' => rw [q] at pr; exact pr
    | bad => rw [q] at pr; exact pr.elim
  have weak : ∀ {F H : Hp} {r : R SV} {x y : Bool}, PRx c.g W σ (PV c.g (x && y) Q) F H r → PRx c.g W σ (PV c.g x Q) F H r ∧ PRx c.g W σ (PV c.g y Q) F H r := fun {F H r x y} h => by
    cases r with
    | ok s => exact ⟨fun v F' H' fp z o n g nd => h v F' H' fp z o (fun q => n (Bool.and_eq_true_iff.mp q).1) g nd, fun v F' H' fp z o n g nd => h v F' H' fp z o (fun q => n (Bool.and_eq_true_iff.mp q).2) g nd⟩
    | exc c' => exact ⟨h, h⟩
    | bad => exact h.elim
  refine h1.go ok sb en pr fun t F1 H1 x1 pr => ?_
  have pr2 := PRx.grow PV.mono x1 pr
  split at pr2
  · rename_i c1
    rw [if_pos c1]
    exact h2 W X ok F1 H1 ρ σ Q x1.sub (en.grow sb x1) (weak pr2).1
  · rename_i c1
    rw [if_neg c1]
    exact h3 W X ok F1 H1 ρ σ Q x1.sub (en.grow sb x1) (weak pr2).2
theorem se_att {i : Nat} (h1 : SE c a e) (ha : okH a = true) (hi : i < c.g.p.flds.length) : SE c (.Attribute a (c.g.p.fld i) pos) (.att e i) := fun W X ok F H ρ σ Q sb en pr => by
  refine we_of (pe_fld pe_we (okH_base ha _ _ _)) ?_
  unfold ev at pr
  refine h1.go ok sb en pr fun s v F1 H1 fp x o1 n f1 nd pr => ?_
  obtain ⟨z, ez, q⟩ := PRx.of1 pr
  unfold attS at ez
  split at ez
  · split at ez
    · rename_i ci ns fs y ey
      cases Option.some.inj ez
      obtain ⟨p, dx, gs, fps, e1, e2, e3, r1, r2, r3, r4⟩ := o1
      obtain ⟨w, fq, g1, g2, g3⟩ := lookF_owns (fld_inj ok.lib hi) r1 r3 ey
      have hc := ok.lib.cls _ r4
      subst e2
      have sub : ∀ a ∈ fq, a ∈ fps.flatten := fun a ha => List.mem_flatten.mpr ⟨fq, g3, ha⟩
      have nd2 : fps.flatten.Nodup := (List.nodup_cons.mp nd).2
      refine ⟨p, _, dx, gs, w, e1, e3, by rw [ok.K]; exact hc.1, by rw [ok.K]; exact hc.2 i hi, g1, q w F1 H1 fq x g2 (fun z => nomatch z) (fun a ha => f1 a (List.mem_cons_of_mem _ (sub a ha))) ?_⟩
      exact (List.pairwise_flatten.mp nd2).1 fq g3
    · cases ez
  · split at ez
    · rename_i ci ns vs d ed
      cases Option.some.inj ez
      have r := own_fz o1
      cases r with
      | @ins p _ dx gs _ _ h1 h2 h3 h4 h5 =>
        obtain ⟨w, g1, g2⟩ := lookF_reps (fld_inj ok.lib hi) h2 h4 ed
        have hc := ok.lib.cls _ h5
        exact ⟨p, _, dx, gs, w, rfl, x.sub.ins h1, by rw [ok.K]; exact hc.1, by rw [ok.K]; exact hc.2 i hi, g1, PoE.val q x g2⟩
    · cases ez
  · cases ez
theorem se_idx (h1 : SE c a e) (h2 : SE c b f) (hb : okH b = true) : SE c (.Subscript a b pos) (.idx e f) := fun W X ok F H ρ σ Q sb en pr => by
  refine we_of (pe_ix (ix_idxS ok.std) pe_we pe_we (okH_ix hb)) ?_
  unfold ev at pr
  refine h1.go ok sb en pr fun s v F1 H1 fp x o1 n f1 nd pr => ?_
  refine h2.go ok x.sub (en.grow sb x) (PRx.grow PV.mono x pr) fun s2 v2 F2 H2 fp2 x2 o2 n2 f2 nd2 pr => ?_
  obtain ⟨d, ed, pr⟩ := PRx.of pr
  obtain ⟨z, ez, q⟩ := PRx.of1 pr
  obtain ⟨F3, x3, r3⟩ := keep_fr x.sub x2 o2 n2 f2 ed
  refine ⟨F3, s, fp, d, z, x3.sub, o1.grow x.sub x3, fun a ha => ?_, nd, r3, ez, PoE.grow x3 q⟩
  obtain ⟨ob, ho, _⟩ := o1.fp_some a ha
  rw [(x3.keep a ob ho).2]
  exact f1 a ha
/-! ### slices -/
def WO (X : Cx) (o : Option Expr) : TO := fun σ H Q => ∀ pins s, Inv X pins σ H s → wpAny (model X.prog X.w) X.A (evalPart o X.env) (fun u s' => ∃ o H', Inv X pins σ H' s' ∧ IsPart u o ∧ Q o H') X.xe s
theorem po_wo {X : Cx} {o : Option Expr} : PO X o (WO X o) := ⟨fun pins s σ H Q I h => h pins s I⟩
abbrev PO2 (Q : Option Int → Hp → Prop) : Hp → Hp → Option Int → Prop := fun F H b => ∀ F' H', Grow F H F' H' → Q b H'
theorem PO2.mono {Q : Option Int → Hp → Prop} : Mono (PO2 Q) := fun _ _ _ _ _ x h F' H' y => h F' H' (x.trans y)
def SO (c : Cc) (a : Option Expr) (e : Option E) : Prop := ∀ W X, Okx c W X → ∀ F H ρ σ Q, Sub F H → EnvE c.g F H ρ σ → PRx c.g W σ (PO2 Q) F H (evo c.Φ e ρ) → WO X a σ H Q
theorem so_none : SO c none none := fun W X ok F H ρ σ Q sb en pr pins s I => po_none.run pins s σ H Q I (pr F H (Grow.refl sb))
theorem so_some (h1 : SE c a e) : SO c (some a) (some e) := fun W X ok F H ρ σ Q sb en pr pins s I => by
  refine (po_some pe_we).run pins s σ H Q I ?_
  unfold evo at pr
  refine h1.go ok sb en pr fun s v F1 H1 fp x o1 n f1 nd pr => ?_
  split at pr
  · rename_i i
    exact ⟨i, own_int o1, pr F1 H1 x⟩
  · exact pr.elim
theorem SO.go {β : Type} {W : WX} {X : Cx} {F H : Hp} {ρ : Env} {σ : L2.St} {lo : Option Expr} {el : Option E} {k : Option Int → R β} {P : Hp → Hp → β → Prop} {Q : Option Int → Hp → Prop} (h : SO c lo el) (ok : Okx c W X) (sb : Sub F H) (en : EnvE c.g F H ρ σ) (pr : PRx c.g W σ P F H (evo c.Φ el ρ >>= k))
    (hk : ∀ b F' H', Grow F H F' H' → PRx c.g W σ P F H (k b) → Q b H') : WO X lo σ H Q := by
  refine h W X ok F H ρ σ Q sb en ?_
  cases q : evo c.Φ el ρ with
  | ok s =>
    rw [q] at pr
    intro F' H' x
    exact hk s F' H' x pr
  | exc c' => rw [q] at pr; exact pr
  | bad => rw [q] at pr; exact pr.elim
theorem se_slc {lo hi : Option Expr} {el eh : Option E} {p2 : Pos} (h1 : SE c a e) (h2 : SO c lo el) (h3 : SO c hi eh) : SE c (.Subscript a (.Slice lo hi none p2) pos) (.slc e el eh) := fun W X ok F H ρ σ Q sb en pr => by
  refine we_of (pe_slice (sl_cutS ok.std) pe_we po_wo po_wo) ?_
  unfold ev at pr
  refine h1.go ok sb en pr fun s v F1 H1 fp x o1 n f1 nd pr => ?_
  refine h2.go ok x.sub (en.grow sb x) (PRx.grow PV.mono x pr) fun l F2 H2 x2 pr => ?_
  refine h3.go ok x2.sub ((en.grow sb x).grow x.sub x2) (PRx.grow PV.mono x2 pr) fun h F3 H3 x3 pr => ?_
  obtain ⟨z, ez, q⟩ := PRx.of1 pr
  exact ⟨F3, s, fp, z, x3.sub, (o1.grow x.sub x2).grow x2.sub x3, ez, PoE.grow x3 q⟩
theorem se_rev {k : Nat} {p1 p2 p3 : Pos} (h1 : SE c a e) : SE c (.Subscript a (.Slice none none (some (.UnaryOp .USub (.Constant (.int 1) k p1) p2)) p3) pos) (.rev e) := fun W X ok F H ρ σ Q sb en pr => by
  refine we_of (pe_revA pe_we) ?_
  unfold ev at pr
  refine h1.go ok sb en pr fun s v F1 H1 fp x o1 n f1 nd pr => ?_
  obtain ⟨z, ez, q⟩ := PRx.of1 pr
  have lists : ∀ {xs : List D}, s.list? = some xs → z = oL xs.reverse → ∃ a xs, v = .ref a ∧ ((SqL X.K H1 a xs ∧ ∀ p, H1 p = none → Q (.ref p) (L2.upd H1 p (.lst xs.reverse))) ∨ (SqT X.K H1 a xs ∧ ∀ p, H1 p = none → Q (.ref p) (L2.upd H1 p (.tup xs.reverse)))) := fun {xs} el ez => by
    subst ez
    obtain ⟨p, vs, rfl, h2, hz, r⟩ := own_list x.sub el o1
    exact ⟨p, vs, rfl, .inl ⟨.inl (.inl h2), fun t ht => PoE.newL (PoE.grow x q) x.sub ht r.reverse (by rw [List.length_reverse]; exact hz)⟩⟩
  unfold revS at ez
  split at ez
  · exact lists rfl (Option.some.inj ez).symm
  · exact lists rfl (Option.some.inj ez).symm
  · cases Option.some.inj ez
    obtain ⟨p, vs, rfl, g1, hz, r, g2⟩ := own_tup x.sub o1
    exact ⟨p, vs, rfl, .inr ⟨by rw [ok.K]; exact g1, fun t ht => PoE.newT (PoE.grow x q) x.sub ht r.reverse (by rw [List.length_reverse]; exact hz)⟩⟩
  · cases ez
/-! ### built-ins -/
theorem any_star {pos : Pos} {X : Cx} : ∀ {as : List Expr}, (∀ a ∈ as, okH a = true) → (backTo pos (starEach as X.env)).any (·.1) = false
  | [], _ => rfl
  | a :: as, h => by
    rw [okH_star (h a List.mem_cons_self)]
    have ih := any_star (pos := pos) (X := X) (as := as) fun x hx => h x (List.mem_cons_of_mem _ hx)
    show ((backTo pos ((false, eval a X.env) :: starEach as X.env)).any (·.1)) = false
    unfold backTo at ih ⊢
    rw [List.map_cons, List.any_cons, ih]
    rfl
theorem se_bi {bi : Bi} {n : Str} {fv : Value} {p : Pos} (hb : biN bi = some (n, fv)) (hn : n ∈ c.g.p.bis) (hg : c.sc.names.lookup n = some .globalImplicit) (hs : ∀ x ∈ a :: as, okH x = true) (h : SB c (a :: as) es) :
    SE c (.Call (.Name n p) (a :: as) [] pos) (.bi bi es) := fun W X ok F H ρ σ Q sb en pr => by
  have hgl : Gl X n := by show X.env.scope.names.lookup n = _; rw [ok.sc]; exact hg
  have hmg : X.mg n = none := by rw [ok.mg]; exact ok.lib.bi n hn
  have h1 := okH_star (hs a List.mem_cons_self) as X.env
  have h2 := any_star (pos := pos) (X := X) fun x hx => hs x (List.mem_cons_of_mem _ hx)
  have pr' : PRx c.g W σ (PV c.g true Q) F H (evb c.Φ es ρ >>= fun ss => R.of (biS bi ss)) := by
    unfold ev at pr
    cases bi <;> first | exact pr | (simp [biN] at hb; done)
  have key : WA X (a :: as) σ H (fun vs H1 => rbi c.g bi vs H1 Q) := by
    refine h.go ok sb en PV.mono pr' fun ss vs F' H' x r pr => ?_
    obtain ⟨z, ez, q⟩ := PRx.of1 pr
    exact ⟨F', ss, z, x.sub, r, ez, q⟩
  have B := fun id (e2 : fv = Value.builtin id) (hv : bootBuiltins n = some (.builtin id)) (n1 : n ≠ "__name__") (n2 : (n == ("__debug__" : Str)) = false) =>
    we_of (pe_callB (call_biS ok.std (by rw [hb, e2])) hgl hmg hv pa_wa n1 n2 h1 h2 (pos := pos) (p := p)) key
  have T := fun id (e2 : fv = Value.type id) (hv : bootBuiltins n = some (.type id)) (n1 : n ≠ "__name__") (n2 : (n == ("__debug__" : Str)) = false) =>
    we_of (pe_callTy (call_biS ok.std (by rw [hb, e2])) hgl hmg hv pa_wa n1 n2 h1 h2 (pos := pos) (p := p)) key
  cases bi <;> first
    | (simp [biN] at hb; done)
    | (cases Option.some.inj hb; exact B _ rfl (by decide +kernel) (by decide) (by decide))
    | (cases Option.some.inj hb; exact T _ rfl (by decide +kernel) (by decide) (by decide))

/-- isinstance(a, T) -/
theorem se_isi {t : Ty} {n m : Str} {p p2 : Pos} (he : n = "isinstance") (hn : n ∈ c.g.p.bis) (hg : c.sc.names.lookup n = some .globalImplicit) (hm : bootBuiltins m = some (.type (tyN t))) (hmn : m ∈ c.g.p.bis) (hmg : c.sc.names.lookup m = some .globalImplicit) (hm1 : m ≠ "__name__") (hm2 : (m == ("__debug__" : Str)) = false) (ha : okH a = true) (h1 : SE c a e) :
    SE c (.Call (.Name n p) [a, .Name m p2] [] pos) (.bi (.isi t) [e]) := fun W X ok F H ρ σ Q sb en pr => by
  subst he
  have hgl : Gl X "isinstance" := by show X.env.scope.names.lookup _ = _; rw [ok.sc]; exact hg
  have hmg' : X.mg "isinstance" = none := by rw [ok.mg]; exact ok.lib.bi _ hn
  have hgm : Gl X m := by show X.env.scope.names.lookup m = _; rw [ok.sc]; exact hmg
  have hmm : X.mg m = none := by rw [ok.mg]; exact ok.lib.bi _ hmn
  have s1 := okH_star ha [.Name m p2] X.env
  have pm : PE X (.Name m p2) (tC (.ty (tyN t))) := pe_bltn hgm hmm hm rfl hm1 hm2
  refine we_of (pe_callB (call_isiS ok.std t) hgl hmg' (by decide +kernel) (pa_cons pe_we (pa_cons pm pa_nil rfl) s1) (by decide) (by decide) s1 (by rfl) (pos := pos) (p := p)) ?_
  unfold ev at pr
  have pr : PRx c.g W σ (PV c.g true Q) F H (ev c.Φ e ρ >>= fun s => R.of (isiS t s)) := by
    change PRx c.g W σ (PV c.g true Q) F H (evb c.Φ [e] ρ >>= fun ss => R.of (biS (.isi t) ss)) at pr
    unfold evb at pr
    cases q : ev c.Φ e ρ with
    | ok s => rw [q] at pr; exact pr
    | exc c' => rw [q] at pr; exact pr
    | bad => rw [q] at pr; exact pr.elim
  refine h1.go ok sb en pr fun s v F1 H1 fp x o1 n f1 nd pr => ?_
  obtain ⟨z, ez, q⟩ := PRx.of1 pr
  exact ⟨F1, v, s, fp, z, rfl, x.sub, o1, ez, PoE.grow x q⟩
/-! ### calls of own functions -/
theorem ownSv_fz {g : G} {F H : Hp} : ∀ {vs : List V} {ds : List D}, Reps g F vs ds → OwnSv g F H vs (ds.map fz) (ds.map fun _ => [])
  | _, _, .nil => .nil
  | _, _, .cons r t => .cons ⟨rfl, r⟩ (ownSv_fz t)
theorem flat_nil {α β : Type} : ∀ ds : List α, (ds.map fun _ => ([] : List β)).flatten = []
  | [] => rfl
  | _ :: ds => by rw [List.map_cons, List.flatten_cons, flat_nil ds]; rfl
theorem Post.grow {F H F' H' : Hp} (p : Post F H F' H' []) : Grow F H F' H' := ⟨p.sub, fun a o e => p.keep a o e (by simp)⟩
theorem ownSv_nil {g : G} {F H : Hp} {vs : List V} {fqs : List (List Addr)} (h : OwnSv g F H vs [] fqs) : fqs = [] := by
  cases h; rfl
/-- the promise at values that are kept -/
theorem sp_of {g : G} {Φ : Phi} {io : List Nat} {f : Nat} {W : WX} {σ : L2.St} {F H : Hp} {Q : VK} {vs : List V} {ds : List D} {F0 H0 : Hp} (sb : Sub F H) (r : Reps g F vs ds) (pr : PRx g W σ (PV g true Q) F H (callS (Φ f (ds.map fz)))) : spF g Φ io f vs H Q (L2.WE W σ) := by
  refine ⟨F, ds.map fz, ds.map fun _ => [], sb, ownSv_fz r, by rw [flat_nil]; exact .nil, by rw [flat_nil]; exact fun a ha => (by cases ha), ?_⟩
  rw [flat_nil]
  generalize Φ f (ds.map fz) = rc at pr
  unfold callS at pr
  split at pr
  · rename_i s
    intro v F' H' fp fqs p o os nd hf
    cases ownSv_nil os
    rw [List.flatten_nil, List.append_nil] at nd hf
    exact pr v F' H' fp p.grow o (fun _ a ha => (hf a ha).2.resolve_left (by simp)) (fun a ha => (hf a ha).1) nd
  · rename_i ci
    intro F' H' fqs p os nd hf
    exact pr F' H' p.grow
  · exact pr.elim
theorem se_call {fi : Nat} {fs : FnS} {n : Str} {p : Pos} (hf : c.g.p.fns[fi]? = some fs) (hn : fs.at_ = (n, none)) (hg : c.sc.names.lookup n = some .globalImplicit) (hd : (n == ("__debug__" : Str)) = false) (hs : ∀ x ∈ a :: as, okH x = true) (h : SA c (a :: as) es) :
    SE c (.Call (.Name n p) (a :: as) [] pos) (.call fi es) := fun W X ok F H ρ σ Q sb en pr => by
  have hgl : Gl X n := by show X.env.scope.names.lookup n = _; rw [ok.sc]; exact hg
  obtain ⟨hm, hk⟩ := ok.lib.fn fi fs hf (by rw [hn])
  rw [hn] at hm
  have F0 := ok.lvl fi fs hf
  have bd := ok.lib.bd fi fs hf
  refine we_of (pe_callS (X := X) (CX := L2.CX X.prog X.w) (k := c.k) (f := c.g.fA fi) (fd := c.g.fD fi) (ps := fs.ps) (sp := spF c.g c.Φ fs.fi.io fi) (E := L2.WE W) (by rw [ok.pr, ok.w, ok.K, ok.mg, ok.base]; exact F0) (ok.room.mono (Nat.le_succ _)) hgl (by rw [ok.mg]; exact hm) (by rw [ok.K]; exact hk) (by rw [ok.K]; exact bd) (passAt ok.tk) pa_wa hd (okH_star (hs a List.mem_cons_self) as X.env)
    (any_star fun x hx => hs x (List.mem_cons_of_mem _ hx)) (pos := pos) (p := p)) ?_
  unfold ev at pr
  refine h.go ok sb en PV.mono pr fun ds vs F' H' x r pr => ?_
  exact sp_of (F0 := F) (H0 := H) x.sub r pr
end
end Pd

end
section
set_option linter.all false
set_option autoImplicit false
set_option Elab.async false
set_option maxRecDepth 100000
/-! Pd.Snd4: methods, makers. -/
namespace Pd
open PySem PySem.Spec PyProof.Rows L2
section
variable {X : Cx} {CX : CXT} {k : Nat} {f C : Addr} {fd : FuncData} {ps : List Str} {sp : Sp} {E : L2.St → XK} {x m : Str} {p pos apos : Pos} {e o : Expr} {es : List Expr} {ta : TE} {t : TA}
def tMethS (C : Addr) (m : Str) (sp : Sp) (E : L2.St → XK) (ta : TE) (t : TA) : TE := fun σ H Q => ta σ H fun x H1 => ∃ a dx fs, x = .ref a ∧ H1 a = some (.ins C dx fs) ∧ fs.lookup m = none ∧
  t σ H1 fun vs H2 => sp (x :: vs) H2 Q (E σ)
theorem pe_methS {pl : Sem Bool} (he : PE X o ta) (c : Cls X.K C) (hm : Meth X.K C m f) (F : FnOk X.prog X.w X.K X.mg X.base CX k f fd ps sp) (hr : Room k X.A) (hb : Binds X.K fd ps []) (hx : ∀ σ, PassesAt CX X σ (E σ)) (ha : PA X (e :: es) t)
    (hst : starEach (e :: es) X.env = (false, eval e X.env) :: starEach es X.env) (hpl : (backTo pos (starEach es X.env)).any (·.1) = false)
    (ht : eval (.Call (.Attribute o m apos) (e :: es) [] pos) X.env = (do
      let ov ← eval o X.env
      standAt apos.atName
      let (f, first) ← holding [ov] (getMethod ov m pl)
      callWith pos f first (backTo pos (starEach (e :: es) X.env)) (backToKw pos (keywordEach [] X.env)))) :
    PE X (.Call (.Attribute o m apos) (e :: es) [] pos) (tMethS C m sp E ta t) := by
  refine ⟨fun pins s σ H Q I h => ?_⟩
  refine PySem.W.methodCall_KW (pl := pl) (thn (he.run pins s σ H _ I h) fun u s1 ⟨x, H1, I1, rx, a, dx, fs, ex, ea, l, q⟩ => ?_) ht
  subst ex
  obtain rfl : u = Value.ref a := rx
  refine getmeth_ok I1 ea c hm l ?_
  refine PySem.W.callWith_K (first := [.ref a]) (h₀ := X.base) I.ok.mod.kin hm.kp (thn (ha.run pos pins s1 σ H1 _ I1 q) fun us s2 ⟨vs, H2, I2, r, q2⟩ => ⟨I2.kIn, ?_⟩) hst hpl
  exact run_fnS (us := .ref a :: us) (vs := .ref a :: vs) F hr hb (hx σ) I2 (.cons rfl r) q2
theorem pe_methS0 {pl : Sem Bool} (he : PE X o ta) (c : Cls X.K C) (hm : Meth X.K C m f) (F : FnOk X.prog X.w X.K X.mg X.base CX k f fd ps sp) (hr : Room k X.A) (hb : Binds X.K fd ps []) (hx : ∀ σ, PassesAt CX X σ (E σ))
    (ht : eval (.Call (.Attribute o m apos) [] [] pos) X.env = (do
      let ov ← eval o X.env
      standAt apos.atName
      let (f, first) ← holding [ov] (getMethod ov m pl)
      callWith pos f first (backTo pos (starEach [] X.env)) (backToKw pos (keywordEach [] X.env)))) :
    PE X (.Call (.Attribute o m apos) [] [] pos) (tMethS C m sp E ta tNil) := by
  refine ⟨fun pins s σ H Q I h => ?_⟩
  refine PySem.W.methodCall_KW (pl := pl) (thn (he.run pins s σ H _ I h) fun u s1 ⟨x, H1, I1, rx, a, dx, fs, ex, ea, l, q⟩ => ?_) ht
  subst ex
  obtain rfl : u = Value.ref a := rx
  refine getmeth_ok I1 ea c hm l ?_
  exact PySem.W.callWith_K0 (first := [.ref a]) I1.kIn hm.kp (run_fnS (us := [.ref a]) (vs := [.ref a]) F hr hb (hx σ) I1 (.cons rfl .nil) q)
theorem run_makeS {pins : List (Addr × Obj)} {σ : L2.St} {H : Hp} {s : Shared} {Q : VK} {us : List Value} {vs : List V} (M : Mk X.K C f) (F : FnOk X.prog X.w X.K X.mg X.base CX k f fd ps sp) (hr : Room (k + 1) X.A) (hb : Binds X.K fd ps [])
    (hx : PassesAt CX X σ (E σ)) (I : Inv X pins σ H s) (r : Vals vs us)
    (h : ∀ x dx, H x = none → H dx = none → dx ≠ x → sp (.ref x :: vs) (upd (upd H dx (.own x)) x (.ins C dx [])) (fun v H2 => v = .non ∧ Q (.ref x) H2) (E σ)) :
    wpAny (model X.prog X.w) X.A (call (.ref C) us) (EP X pins σ Q) X.xe s := by
  have hq := h (s.heap.objs.size + 1) s.heap.objs.size (I.hok.fresh (Nat.le_succ _)) (I.hok.fresh (Nat.le_refl _)) (Nat.ne_of_lt (Nat.lt_succ_self _))
  have I2 := Inv.made (C := C) I
  have r2 : Vals (V.ref (s.heap.objs.size + 1) :: vs) (Value.ref (s.heap.objs.size + 1) :: (us ++ [])) := .cons rfl (by rw [List.append_nil]; exact r)
  have hl : (Value.ref (s.heap.objs.size + 1) :: us ++ []).length = ps.length := by
    have e := r2.length
    rw [F.len _ _ _ _ hq] at e
    exact e.symm
  refine wpAny_call (make_map (f := f) I.kIn M.makes M.init (beq_iff_eq.mp M.fn) (codeAny_mono (F.run _ X.stack _ _ ⟨Value.ref (s.heap.objs.size + 1) :: us, []⟩ (Value.ref (s.heap.objs.size + 1) :: (us ++ [])) _ _ (E σ) (hr.make C us [])
    (I2.env0.make C us []) (by have := hb _ (Value.ref (s.heap.objs.size + 1) :: us) I2.kIn hl; rw [List.cons_append] at this; exact this) r2 hq) fun r s' hq' => ?_))
  cases r with
  | error e => exact hx pins _ _ e s' I2 hq'
  | ok fl =>
    cases fl with
    | ret u =>
      obtain ⟨v, H', I3, rv, ev, q3⟩ := I2.after hq'
      subst ev
      exact ⟨rv, ⟨V.ref (s.heap.objs.size + 1), H', I3, rfl, q3⟩⟩
    | next => exact False.elim hq'
    | brk => exact False.elim hq'
    | cont => exact False.elim hq'
def tMakeS (C : Addr) (sp : Sp) (E : L2.St → XK) (t : TA) : TE := fun σ H Q => t σ H fun vs H1 => ∀ x dx, H1 x = none → H1 dx = none → dx ≠ x →
  sp (.ref x :: vs) (upd (upd H1 dx (.own x)) x (.ins C dx [])) (fun v H2 => v = .non ∧ Q (.ref x) H2) (E σ)
theorem pe_makeS (M : Mk X.K C f) (F : FnOk X.prog X.w X.K X.mg X.base CX k f fd ps sp) (hr : Room (k + 1) X.A) (hg : Gl X x) (hm : X.mg x = some (.ref C)) (hb : Binds X.K fd ps []) (hx : ∀ σ, PassesAt CX X σ (E σ))
    (ha : PA X (e :: es) t) (hdb : (x == ("__debug__" : Str)) = false) (he : starEach (e :: es) X.env = (false, eval e X.env) :: starEach es X.env) (hpl : (backTo pos (starEach es X.env)).any (·.1) = false) :
    PE X (.Call (.Name x p) (e :: es) [] pos) (tMakeS C sp E t) := by
  refine ⟨fun pins s σ H Q I h => ?_⟩
  refine wpAny_Call_Name_kw (ld_glob I hg hm ?_ hdb)
  refine PySem.W.callWith_K (h₀ := X.base) I.ok.mod.kin M.kp (thn (ha.run pos pins s σ H _ I h) fun us s1 ⟨vs, H1, I1, r, q⟩ => ⟨I1.kIn, ?_⟩) he hpl
  exact run_makeS M F hr hb (hx σ) I1 r q
theorem pe_makeS0 (M : Mk X.K C f) (F : FnOk X.prog X.w X.K X.mg X.base CX k f fd ps sp) (hr : Room (k + 1) X.A) (hg : Gl X x) (hm : X.mg x = some (.ref C)) (hb : Binds X.K fd ps []) (hx : ∀ σ, PassesAt CX X σ (E σ))
    (hdb : (x == ("__debug__" : Str)) = false) : PE X (.Call (.Name x p) [] [] pos) (tMakeS C sp E tNil) := by
  refine ⟨fun pins s σ H Q I h => ?_⟩
  refine wpAny_Call_Name_kw (ld_glob I hg hm ?_ hdb)
  exact PySem.W.callWith_K0 I.kIn M.kp (run_makeS (us := []) M F hr hb (hx σ) I .nil h)
theorem pe_callS0 (F : FnOk X.prog X.w X.K X.mg X.base CX k f fd ps sp) (hr : Room k X.A) (hg : Gl X x) (hm : X.mg x = some (.ref f)) (hk : PySem.W.keepIn X.K (.ref f) = true) (hb : Binds X.K fd ps []) (hx : ∀ σ, PassesAt CX X σ (E σ))
    (hdb : (x == ("__debug__" : Str)) = false) : PE X (.Call (.Name x p) [] [] pos) (tCallS sp E tNil) := by
  refine ⟨fun pins s σ H Q I h => ?_⟩
  refine wpAny_Call_Name_kw (ld_glob I hg hm ?_ hdb)
  exact PySem.W.callWith_K0 I.kIn hk (run_fnS (us := []) F hr hb (hx σ) I .nil h)
end
section
variable {c : Cc} {a b : Expr} {as : List Expr} {e f : E} {es : List E} {pos : Pos}
theorem se_call0 {fi : Nat} {fs : FnS} {n : Str} {p : Pos} (hf : c.g.p.fns[fi]? = some fs) (hn : fs.at_ = (n, none)) (hg : c.sc.names.lookup n = some .globalImplicit) (hd : (n == ("__debug__" : Str)) = false) :
    SE c (.Call (.Name n p) [] [] pos) (.call fi []) := fun W X ok F H ρ σ Q sb en pr => by
  have hgl : Gl X n := by show X.env.scope.names.lookup n = _; rw [ok.sc]; exact hg
  obtain ⟨hm, hk⟩ := ok.lib.fn fi fs hf (by rw [hn])
  rw [hn] at hm
  have F0 := ok.lvl fi fs hf
  have bd := ok.lib.bd fi fs hf
  refine we_of (pe_callS0 (X := X) (CX := L2.CX X.prog X.w) (k := c.k) (f := c.g.fA fi) (fd := c.g.fD fi) (ps := fs.ps) (sp := spF c.g c.Φ fs.fi.io fi) (E := L2.WE W) (by rw [ok.pr, ok.w, ok.K, ok.mg, ok.base]; exact F0) (ok.room.mono (Nat.le_succ _)) hgl (by rw [ok.mg]; exact hm) (by rw [ok.K]; exact hk) (by rw [ok.K]; exact bd) (passAt ok.tk) hd (pos := pos) (p := p)) ?_
  unfold ev at pr
  exact sp_of (F0 := F) (H0 := H) sb .nil pr
theorem nolook {g : G} (lb : Lib g) {m : Str} (h1 : m ∉ g.p.flds) (h2 : m ≠ Str.empty) : ∀ {gs : List (Str × V)} {ns : List Nat}, gs.map (·.1) = ns.map g.p.fld → gs.lookup m = none
  | [], _, _ => rfl
  | (x, v) :: gs, [], h => by simp at h
  | (x, v) :: gs, n :: ns, h => by
    simp only [List.map_cons, List.cons.injEq] at h
    have ne : m ≠ x := by
      rw [h.1]
      unfold PrS.fld
      rw [List.getD_eq_getElem?_getD]
      cases q : g.p.flds[n]? with
      | none => exact h2
      | some y => exact fun z => h1 (by rw [z]; exact List.mem_of_getElem? q)
    rw [List.lookup_cons, beq_eq_false_iff_ne.mpr ne]
    exact nolook lb h1 h2 h.2
theorem meth_eq {o : Expr} {m : Str} {args : List Expr} {apos pos : Pos} {env : PySem.Env} (hb : attributeBase o m env (eval o env) = eval o env) (hf : methodCallForm (args.length + 0) (backTo pos (starEach args env)) (backToKw pos (keywordEach [] env)) = true) (hl : (apos.endLine == pos.line) = true) :
  eval (.Call (.Attribute o m apos) args [] pos) env = (do
      let ov ← eval o env
      standAt apos.atName
      let (f, first) ← holding [ov] (getMethod ov m (do return (← importBound o env).getD true))
      callWith pos f first (backTo pos (starEach args env)) (backToKw pos (keywordEach [] env))) := by
  show (do
    let ov ← attributeBase o m env (eval o env)
    standAt apos.atName
    methodCall o m apos pos env ov (args.length + 0) (backTo pos (starEach args env)) (backToKw pos (keywordEach [] env))) = _
  rw [hb]
  unfold methodCall
  rw [hf]
  unfold calleeOf methodCallPos
  rw [hl]
  rfl

theorem all_star {pos : Pos} {env : PySem.Env} : ∀ {as : List Expr}, (∀ a ∈ as, okH a = true) → (backTo pos (starEach as env)).all (!·.1) = true
  | [], _ => rfl
  | a :: as, h => by
    rw [okH_star (h a List.mem_cons_self)]
    have ih := all_star (pos := pos) (env := env) (as := as) fun x hx => h x (List.mem_cons_of_mem _ hx)
    show ((backTo pos ((false, eval a env) :: starEach as env)).all (!·.1)) = true
    unfold backTo at ih ⊢
    rw [List.map_cons, List.all_cons, ih]
    rfl
theorem form_ok {pos : Pos} {env : PySem.Env} {as : List Expr} (h : ∀ a ∈ as, okH a = true) (hn : as.length < 30) : methodCallForm (as.length + 0) (backTo pos (starEach as env)) (backToKw pos (keywordEach [] env)) = true := by
  unfold methodCallForm
  rw [all_star h]
  show (true && true && decide (as.length + 0 + 0 < 30)) = true
  simpa using hn
theorem own_ins {g : G} {F H : Hp} {v : V} {ci : Nat} {ns : List Nat} {ds : List D} (sb : Sub F H) (r : Rep g F v (.ins ci ns ds)) : ∃ p dx gs, v = .ref p ∧ H p = some (.ins (g.cA ci) dx gs) ∧ gs.map (·.1) = ns.map g.p.fld ∧ ci < g.p.cls.length := by
  cases r with
  | ins h1 h2 h3 h4 h5 => exact ⟨_, _, _, rfl, sb.ins h1, h2, h5⟩
theorem insOf_some {ci : Nat} {s : SV} {d : D} (h : insOf ci e s = some d) : fr e s = some d ∧ ∃ ns ds, d = .ins ci ns ds := by
  unfold insOf at h
  split at h
  · rename_i c' ns vs q
    split at h
    · rename_i hc
      subst hc
      cases Option.some.inj h
      exact ⟨q, ns, vs, rfl⟩
    · cases h
  · cases h
theorem se_meth {ci fi : Nat} {fs : FnS} {m : Str} {apos : Pos} (hf : c.g.p.fns[fi]? = some fs) (hn : fs.at_ = (c.g.p.clsN ci, some m)) (hc : ci < c.g.p.cls.length) (hl : (apos.endLine == pos.line) = true) (ha : okH a = true) (hs : ∀ x ∈ as, okH x = true) (hz : as.length < 30) (hlen : es.length = as.length) (h1 : SE c a e) (h : SA c as es) :
    SE c (.Call (.Attribute a m apos) as [] pos) (.meth ci fi e es) := fun W X ok F H ρ σ Q sb en pr => by
  obtain ⟨hm, hm1, hm2⟩ := ok.lib.meth fi fs m ci hf (by rw [hn]) hc (by rw [hn])
  have F0 := ok.lvl fi fs hf
  have bd := ok.lib.bd fi fs hf
  have cl := ok.lib.cls ci hc
  have eq := meth_eq (o := a) (m := m) (args := as) (apos := apos) (pos := pos) (env := X.env) (okH_base ha _ _ _) (form_ok hs hz) hl
  unfold ev at pr
  have key : tMethS (c.g.cA ci) m (spF c.g c.Φ fs.fi.io fi) (L2.WE W) (WE X a) (WA X as) σ H Q := by
    refine h1.go ok sb en pr fun s v F' H' fp x o1 n f1 nd pr => ?_
    obtain ⟨d, ed, pr⟩ := PRx.of pr
    obtain ⟨ed, ns, ds, rfl⟩ := insOf_some ed
    obtain ⟨F2, x2, r⟩ := keep_fr sb x o1 n f1 ed
    obtain ⟨p, dx, gs, rfl, e2, e3, e4⟩ := own_ins x2.sub r
    refine ⟨p, dx, gs, rfl, e2, nolook ok.lib hm1 hm2 e3, ?_⟩
    refine h.go ok x2.sub (en.grow sb x2) PV.mono (PRx.grow PV.mono x2 pr) fun dd vs F3 H3 x3 rs pr => ?_
    exact sp_of (F0 := F) (H0 := H) (ds := .ins ci ns ds :: dd) x3.sub (.cons (Rep.mono (x3.same x2.sub) _ r) rs) pr
  cases as with
  | nil =>
    refine we_of (pe_methS0 (X := X) (CX := L2.CX X.prog X.w) (k := c.k) (f := c.g.fA fi) (fd := c.g.fD fi) (ps := fs.ps) (C := c.g.cA ci) (m := m) (sp := spF c.g c.Φ fs.fi.io fi) (E := L2.WE W) pe_we (by rw [ok.K]; exact cl.1) (by rw [ok.K]; exact hm) (by rw [ok.pr, ok.w, ok.K, ok.mg, ok.base]; exact F0) (ok.room.mono (Nat.le_succ _)) (by rw [ok.K]; exact bd) (passAt ok.tk) eq) ?_
    refine h1.go ok sb en pr fun s v F' H' fp x o1 n f1 nd pr => ?_
    obtain ⟨d, ed, pr⟩ := PRx.of pr
    obtain ⟨ed, ns, ds, rfl⟩ := insOf_some ed
    obtain ⟨F2, x2, r⟩ := keep_fr sb x o1 n f1 ed
    obtain ⟨p, dx, gs, rfl, e2, e3, e4⟩ := own_ins x2.sub r
    refine ⟨p, dx, gs, rfl, e2, nolook ok.lib hm1 hm2 e3, ?_⟩
    obtain rfl : es = [] := List.length_eq_zero_iff.mp hlen
    exact sp_of (F0 := F) (H0 := H) (ds := [.ins ci ns ds]) x2.sub (.cons r .nil) (PRx.grow PV.mono x2 pr)
  | cons a' as' =>
    exact we_of (pe_methS (X := X) (CX := L2.CX X.prog X.w) (k := c.k) (f := c.g.fA fi) (fd := c.g.fD fi) (ps := fs.ps) (C := c.g.cA ci) (m := m) (sp := spF c.g c.Φ fs.fi.io fi) (E := L2.WE W) pe_we (by rw [ok.K]; exact cl.1) (by rw [ok.K]; exact hm) (by rw [ok.pr, ok.w, ok.K, ok.mg, ok.base]; exact F0) (ok.room.mono (Nat.le_succ _)) (by rw [ok.K]; exact bd) (passAt ok.tk) pa_wa
      (okH_star (hs a' List.mem_cons_self) as' X.env) (any_star fun x hx => hs x (List.mem_cons_of_mem _ hx)) eq) key

/-- a new instance, made by __init__ -/
theorem sp_make {ci fi : Nat} {g : G} {Φ : Phi} {io : List Nat} (hio : io = [0]) (hc : ci < g.p.cls.length) {W : WX} {σ : L2.St} {F H : Hp} {Q : VK} {vs : List V} {ds : List D} (sb : Sub F H) (r : Reps g F vs ds) (pr : PRx g W σ (PV g true Q) F H (makeS (Φ fi (.ins ci [] [] :: ds.map fz)))) {x dx : Addr} (hx : H x = none) (hdx : H dx = none) (ne : dx ≠ x) :
    spF g Φ io fi (.ref x :: vs) (upd (upd H dx (.own x)) x (.ins (g.cA ci) dx [])) (fun v H2 => v = .non ∧ Q (.ref x) H2) (L2.WE W σ) := by
  have hs : ∀ a u, H a = some u → a ≠ x ∧ a ≠ dx := fun a u e => ⟨ne_of_none e hx, ne_of_none e hdx⟩
  have sb2 : Sub F (upd (upd H dx (.own x)) x (.ins (g.cA ci) dx [])) := fun a u e => by
    obtain ⟨o, ho⟩ := sb.some e
    rw [upd_ne (hs a o ho).1, upd_ne (hs a o ho).2]
    exact sb a u e
  have fl : ([x] :: ds.map fun _ => ([] : List Addr)).flatten = [x] := by rw [List.flatten_cons, flat_nil]; rfl
  refine ⟨F, .ins ci [] [] :: ds.map fz, [x] :: ds.map fun _ => [], sb2, .cons ⟨x, dx, [], [], rfl, rfl, upd_same, rfl, Nat.zero_le _, .nil, hc⟩ (ownSv_fz r), by rw [fl]; simp, fun a ha => ?_, ?_⟩
  · rw [fl] at ha
    cases List.mem_singleton.mp ha
    exact sb.none hx
  rw [fl]
  subst hio
  generalize Φ fi (.ins ci [] [] :: ds.map fz) = rc at pr
  have post : ∀ {F' H' : Hp}, Post F (upd (upd H dx (.own x)) x (.ins (g.cA ci) dx [])) F' H' [x] → Grow F H F' H' := fun {F' H'} p => ⟨p.sub, fun a o e => by
    obtain ⟨n1, n2⟩ := hs a o e
    exact p.keep a o (by rw [upd_ne n1, upd_ne n2]; exact e) fun z => n1 (List.mem_singleton.mp z)⟩
  unfold makeS at pr
  split at pr
  · rename_i s
    intro v F' H' fp fqs p o os nd hf
    have rv := own_fz o
    cases rv
    refine ⟨rfl, ?_⟩
    cases os with
    | @cons _ _ fq _ _ _ o2 t =>
      cases t
      have e1 : ([fq] : List (List Addr)).flatten = fq := by simp
      rw [e1] at nd hf
      refine pr (.ref x) F' H' fq (post p) o2 (fun _ a ha => ?_) (fun a ha => (hf a (List.mem_append_right _ ha)).1) (List.nodup_append.mp nd).2.1
      rcases (hf a (List.mem_append_right _ ha)).2 with z | z
      · rw [List.mem_singleton.mp z]; exact hx
      · cases q : H a with
        | none => rfl
        | some u =>
          obtain ⟨n1, n2⟩ := hs a u q
          rw [upd_ne n1, upd_ne n2, q] at z
          cases z
  · rename_i ci io
    intro F' H' fqs p os nd hf
    exact pr F' H' (post p)
  · exact pr.elim

theorem se_mk {ci fi : Nat} {fs : FnS} {p : Pos} (hf : c.g.p.fns[fi]? = some fs) (hn : fs.at_ = (c.g.p.clsN ci, some ("__init__" : Str))) (hio : fs.fi.io = [0]) (hc : ci < c.g.p.cls.length) (hg : c.sc.names.lookup (c.g.p.clsN ci) = some .globalImplicit) (hd : ((c.g.p.clsN ci) == ("__debug__" : Str)) = false) (hs : ∀ x ∈ as, okH x = true) (hlen : es.length = as.length) (h : SA c as es) :
    SE c (.Call (.Name (c.g.p.clsN ci) p) as [] pos) (.mk ci fi es) := fun W X ok F H ρ σ Q sb en pr => by
  have hgl : Gl X (c.g.p.clsN ci) := by show X.env.scope.names.lookup _ = _; rw [ok.sc]; exact hg
  obtain ⟨hm, hmk⟩ := ok.lib.maker fi fs "__init__" ci hf (by rw [hn]) rfl hc (by rw [hn])
  have F0 := ok.lvl fi fs hf
  have bd := ok.lib.bd fi fs hf
  unfold ev at pr
  cases as with
  | nil =>
    obtain rfl : es = [] := List.length_eq_zero_iff.mp hlen
    refine we_of (pe_makeS0 (X := X) (CX := L2.CX X.prog X.w) (k := c.k) (f := c.g.fA fi) (fd := c.g.fD fi) (ps := fs.ps) (C := c.g.cA ci) (sp := spF c.g c.Φ fs.fi.io fi) (E := L2.WE W) (by rw [ok.K]; exact hmk) (by rw [ok.pr, ok.w, ok.K, ok.mg, ok.base]; exact F0) ok.room hgl (by rw [ok.mg]; exact hm) (by rw [ok.K]; exact bd) (passAt ok.tk) hd (pos := pos) (p := p)) ?_
    intro x dx hx hdx ne
    exact sp_make hio hc (ds := []) sb .nil pr hx hdx ne
  | cons a' as' =>
    refine we_of (pe_makeS (X := X) (CX := L2.CX X.prog X.w) (k := c.k) (f := c.g.fA fi) (fd := c.g.fD fi) (ps := fs.ps) (C := c.g.cA ci) (sp := spF c.g c.Φ fs.fi.io fi) (E := L2.WE W) (by rw [ok.K]; exact hmk) (by rw [ok.pr, ok.w, ok.K, ok.mg, ok.base]; exact F0) ok.room hgl (by rw [ok.mg]; exact hm) (by rw [ok.K]; exact bd) (passAt ok.tk) pa_wa hd
      (okH_star (hs a' List.mem_cons_self) as' X.env) (any_star fun x hx => hs x (List.mem_cons_of_mem _ hx)) (pos := pos) (p := p)) ?_
    refine h.go ok sb en PV.mono pr fun ds vs F' H' x r pr => ?_
    intro y dy hy hdy ne
    exact sp_make hio hc x.sub r pr hy hdy ne
end
end Pd

end
section
set_option linter.all false
set_option autoImplicit false
set_option Elab.async false
set_option maxRecDepth 100000
/-! Pd.Snd5: tests, sources, targets. -/
namespace Pd
open PySem PySem.Spec PyProof.Rows L2
section
variable {c : Cc} {W : WX} {X : Cx} {a b : Expr} {as rest : List Expr} {e f : E} {es : List E} {pos : Pos} {F H : Hp} {σ : L2.St} {ρ : Env}
/-! ### tests -/
def okT : Expr → Bool
  | .UnaryOp .Not _ _ => false
  | .BoolOp _ _ _ => false
  | .IfExp _ _ _ _ => false
  | .Compare _ _ _ _ => false
  | _ => true
theorem okT_true (h : okT a = true) (env : PySem.Env) : ∀ whole, isTrue a env whole = (do let v ← whole; standAt a.pos; holding [v] (truthy v)) := by
  intro w
  cases a with
  | UnaryOp op x p => cases op <;> first | rfl | (simp [okT] at h; done)
  | BoolOp _ _ _ => simp [okT] at h
  | IfExp _ _ _ _ => simp [okT] at h
  | Compare _ _ _ _ => simp [okT] at h
  | _ => rfl
abbrev QB (Q : Bool → Hp → Prop) : VK := fun x H => ∃ k, x = .bl k ∧ Q k H
theorem toV {g : G} {fr : Bool} {Φ : Phi} {Q : Bool → Hp → Prop} (pr : PRx g W σ (PT2 Q) F H (evB Φ e ρ)) : PRx g W σ (PV g fr (QB Q)) F H (ev Φ e ρ) := by
  rw [evB_eq] at pr
  cases q : ev Φ e ρ with
  | ok s =>
    rw [q] at pr
    intro v F' H' fp x o n f nd
    obtain ⟨b, rfl, pr⟩ := own_bool (f := R.ok) o (by cases q2 : boolS s with
      | ok b => rw [show (R.ok s >>= boolS) = boolS s from rfl, q2] at pr; exact pr
      | exc c' => rw [show (R.ok s >>= boolS) = boolS s from rfl, q2] at pr; exact pr
      | bad => rw [show (R.ok s >>= boolS) = boolS s from rfl, q2] at pr; exact pr)
    exact ⟨b, rfl, pr F' H' x⟩
  | exc c' => rw [q] at pr; exact pr
  | bad => rw [q] at pr; exact pr.elim
theorem st_val (h : SE c a e) (ht : okT a = true) : ST c a e := fun W X ok F H ρ σ Q sb en pr => wt_of (pt_val pe_we (okT_true ht X.env)) (h W X ok F H ρ σ _ sb en (toV pr))
theorem cmp_core {o : Cop} {Q : VK} {fr : Bool} (ok : Okx c W X) (sb : Sub F H) (en : EnvE c.g F H ρ σ) (h1 : SE c a e) (h2 : SE c b f) (pr : PRx c.g W σ (PV c.g fr Q) F H (ev c.Φ (.cmp o e f) ρ)) : tOp (r2b c.g (cmpS o)) (WE X a) (WE X b) σ H Q := by
  unfold ev at pr
  refine h1.go ok sb en pr fun s v F1 H1 fp x o1 n f1 nd pr => ?_
  refine h2.go ok x.sub (en.grow sb x) (PRx.grow PV.mono x pr) fun s2 v2 F2 H2 fp2 x2 o2 n2 f2 nd2 pr => ?_
  obtain ⟨z, ez, q⟩ := PRx.of pr
  exact ⟨F2, s, s2, fp, fp2, z, x2.sub, o1.grow x.sub x2, o2, ez, PoE.val q x2 (.bl _)⟩
theorem st_cmp {o : Cop} (h1 : SE c a e) (h2 : SE c b f) (hb : okH b = true) : ST c (.Compare a [copOf o] [b] pos) (.cmp o e f) := fun W X ok F H ρ σ Q sb en pr =>
  wt_of (pt_cmpR (op_cmpS ok.std o) pe_we pe_we (okH_marks hb _)) (cmp_core ok sb en h1 h2 (toV (fr := true) pr))
theorem chain_core {o p : Cop} {d : Expr} {k : E} {Q : VK} {fr : Bool} (ok : Okx c W X) (sb : Sub F H) (en : EnvE c.g F H ρ σ) (h1 : SE c a e) (h2 : SE c b f) (h3 : SE c d k) (pr : PRx c.g W σ (PV c.g fr Q) F H (ev c.Φ (.chain o p e f k) ρ)) :
    tChain (r2b c.g (cmpS o)) (r2b c.g (cmpS p)) (WE X a) (WE X b) (WE X d) σ H Q := by
  unfold ev at pr
  refine h1.go ok sb en pr fun s v F1 H1 fp x o1 n f1 nd pr => ?_
  refine h2.go ok x.sub (en.grow sb x) (PRx.grow PV.mono x pr) fun s2 v2 F2 H2 fp2 x2 o2 n2 f2 nd2 pr => ?_
  obtain ⟨z, ez, pr⟩ := PRx.of pr
  refine ⟨F2, s, s2, fp, fp2, z, x2.sub, o1.grow x.sub x2, o2, ez, z, rfl, ?_⟩
  have pr2 := PRx.grow PV.mono x2 pr
  split at pr2
  · rename_i c1
    rw [if_pos c1]
    refine h3.go ok x2.sub ((en.grow sb x).grow x.sub x2) pr2 fun s3 v3 F3 H3 fp3 x3 o3 n3 f3 nd3 pr => ?_
    obtain ⟨z2, ez2, q⟩ := PRx.of pr
    exact ⟨F3, s2, s3, fp2, fp3, z2, x3.sub, o2.grow x2.sub x3, o3, ez2, PoE.val q x3 (.bl _)⟩
  · rename_i c1
    rw [if_neg c1]
    exact PoE.pure pr2 x2.sub (.bl _)
theorem st_chain {o p : Cop} {d : Expr} {k : E} (h1 : SE c a e) (h2 : SE c b f) (h3 : SE c d k) (hd : okH d = true) : ST c (.Compare a [copOf o, copOf p] [b, d] pos) (.chain o p e f k) := fun W X ok F H ρ σ Q sb en pr =>
  wt_of (pt_chain (op_cmpS ok.std o) (op_cmpS ok.std p) pe_we pe_we pe_we (lastMarks2 hd)) (chain_core ok sb en h1 h2 h3 (toV (fr := true) pr))
theorem ev_not {Φ : Phi} : ev Φ (.not e) ρ = (ev Φ e ρ >>= fun x => boolS x >>= fun c => R.ok (fz (.bl (!c)))) := by rw [ev]
theorem ev_and {Φ : Phi} : ev Φ (.and e f) ρ = (ev Φ e ρ >>= fun x => boolS x >>= fun c => if c then ev Φ f ρ else R.ok (fz (.bl false))) := by rw [ev]
theorem ev_or {Φ : Phi} : ev Φ (.or e f) ρ = (ev Φ e ρ >>= fun x => boolS x >>= fun c => if c then R.ok (fz (.bl true)) else ev Φ f ρ) := by rw [ev]
theorem evB_not {Φ : Phi} : evB Φ (.not e) ρ = (evB Φ e ρ >>= fun b => R.ok (!b)) := by
  rw [evB_eq, evB_eq, ev_not]
  cases ev Φ e ρ with
  | ok s =>
    show ((boolS s >>= fun c => R.ok (fz (.bl (!c)))) >>= boolS) = (boolS s >>= fun b => R.ok (!b))
    cases boolS s <;> rfl
  | exc _ => rfl
  | bad => rfl
theorem evB_and {Φ : Phi} : evB Φ (.and e f) ρ = (evB Φ e ρ >>= fun b => if b then evB Φ f ρ else R.ok false) := by
  rw [evB_eq, evB_eq, ev_and]
  cases ev Φ e ρ with
  | ok s =>
    show ((boolS s >>= fun c => if c then ev Φ f ρ else R.ok (fz (.bl false))) >>= boolS) = (boolS s >>= fun b => if b then evB Φ f ρ else R.ok false)
    cases boolS s with
    | ok t => cases t <;> rfl
    | exc _ => rfl
    | bad => rfl
  | exc _ => rfl
  | bad => rfl
theorem evB_or {Φ : Phi} : evB Φ (.or e f) ρ = (evB Φ e ρ >>= fun b => if b then R.ok true else evB Φ f ρ) := by
  rw [evB_eq, evB_eq, ev_or]
  cases ev Φ e ρ with
  | ok s =>
    show ((boolS s >>= fun c => if c then R.ok (fz (.bl true)) else ev Φ f ρ) >>= boolS) = (boolS s >>= fun b => if b then R.ok true else evB Φ f ρ)
    cases boolS s with
    | ok t => cases t <;> rfl
    | exc _ => rfl
    | bad => rfl
  | exc _ => rfl
  | bad => rfl
theorem st_not (h : ST c a e) : ST c (.UnaryOp .Not a pos) (.not e) := fun W X ok F H ρ σ Q sb en pr => by
  refine wt_of (pt_not pt_wt) ?_
  rw [evB_not] at pr
  exact h.go ok sb en pr fun b F' H' x pr => pr F' H' x
/-- a chain of and, or as a test, whatever its whole -/
theorem pw_of {op : BoolOp} {t : TT} (h : PT X (.BoolOp op as pos) t) : PW X (.BoolOp op as pos) t := ⟨fun whole pins s σ H Q I q => h.run pins s σ H Q I q⟩
theorem st_and (h1 : ST c a e) (h2 : ST c (.BoolOp .And (b :: rest) pos) f) : ST c (.BoolOp .And (a :: b :: rest) pos) (.and e f) := fun W X ok F H ρ σ Q sb en pr => by
  refine wt_of (pw_and pt_wt (pw_of pt_wt)).pt ?_
  rw [evB_and] at pr
  refine h1.go ok sb en pr fun t F' H' x pr => ?_
  have pr2 := PRx.grow PT2.mono x pr
  split at pr2
  · rename_i c1
    rw [if_pos c1]
    exact h2 W X ok F' H' ρ σ Q x.sub (en.grow sb x) pr2
  · rename_i c1
    rw [if_neg c1]
    exact pr2 F' H' (Grow.refl x.sub)
theorem st_or (h1 : ST c a e) (h2 : ST c (.BoolOp .Or (b :: rest) pos) f) : ST c (.BoolOp .Or (a :: b :: rest) pos) (.or e f) := fun W X ok F H ρ σ Q sb en pr => by
  refine wt_of (pw_or pt_wt (pw_of pt_wt)).pt ?_
  rw [evB_or] at pr
  refine h1.go ok sb en pr fun t F' H' x pr => ?_
  have pr2 := PRx.grow PT2.mono x pr
  split at pr2
  · rename_i c1
    rw [if_pos c1]
    exact pr2 F' H' (Grow.refl x.sub)
  · rename_i c1
    rw [if_neg c1]
    exact h2 W X ok F' H' ρ σ Q x.sub (en.grow sb x) pr2
theorem st_one_and (h1 : ST c a e) : ST c (.BoolOp .And [a] pos) e := fun W X ok F H ρ σ Q sb en pr => wt_of (pw_and1 pt_wt).pt (h1 W X ok F H ρ σ Q sb en pr)
theorem st_one_or (h1 : ST c a e) : ST c (.BoolOp .Or [a] pos) e := fun W X ok F H ρ σ Q sb en pr => wt_of (pw_or1 pt_wt).pt (h1 W X ok F H ρ σ Q sb en pr)

/-! ### what is walked -/
def SrcOK (g : G) (J : L2.It) (P : Hp → Hp → Prop) (xs : List D) : Prop := ∀ F H, P F H → Sub F H → ∀ i, (∀ d, xs[i]? = some d → J.go i H ∧ ∀ x H', J.yld i H x H' → ∃ F', Grow F H F' H' ∧ Rep g F' x d) ∧ (xs.length ≤ i → J.stop i H)
def WI (X : Cx) (tg a : Expr) : TI := fun σ H R => ∀ pins s, Inv X pins σ H s → wpAny (model X.prog X.w) X.A (eval a X.env) (fun v s1 => wpAny (model X.prog X.w) X.A (pyIter v) (PIE X pins σ tg R) X.xe s1) X.xe s
theorem pi_wi {tg : Expr} : PI X tg a (WI X tg a) := ⟨fun pins s σ H R I h => h pins s I⟩
theorem wi_of {tg : Expr} {wi : TI} {R : L2.It → Hp → Prop} (h : PI X tg a wi) (q : wi σ H R) : WI X tg a σ H R := fun pins s I => h.run pins s σ H R I q
/-- a value is walked -/
def ItV (X : Cx) (tg : Expr) (σ : L2.St) (v : V) (H : Hp) (R : L2.It → Hp → Prop) : Prop := ∀ pins s u, Inv X pins σ H s → RelV v u → wpAny (model X.prog X.w) X.A (pyIter u) (PIE X pins σ tg R) X.xe s
theorem pi_itv' {tg : Expr} {R : L2.It → Hp → Prop} (h : WE X a σ H (fun v H1 => ItV X tg σ v H1 R)) : WI X tg a σ H R := fun pins s I => thn (h pins s I) fun u s1 ⟨v, H1, I1, r1, q⟩ => q pins s1 u I1 r1
theorem itv_list {tg : Expr} {p : Addr} {vs : List V} {R : L2.It → Hp → Prop} (hq : SqL X.K H p vs) (q : R (Itl X.K p) H) : ItV X tg σ (.ref p) H R := fun pins s u I1 r1 => by
  cases r1
  obtain ⟨its, rv, pl, hz⟩ := I1.list hq
  refine wpAny_pyIter_list pl.isList ?_
  refine ⟨s.heap.objs.size, [s.heap.objs.size], _, _, H, rfl, I1.kept (t' := s.toks) fun b o e => Heap.get?_push_of_some _ e, turn_list p _, ⟨_, Heap.get?_push_size _ rfl, rfl, rfl⟩, fun b hb => ?_, q⟩
  have e : b = s.heap.objs.size := by simpa using hb
  subst e
  exact I1.fpOk (Nat.le_refl _) (I1.hok.fresh (Nat.le_refl _))
theorem itv_tup {tg : Expr} {p : Addr} {vs : List V} {R : L2.It → Hp → Prop} (hq : SqT X.K H p vs) (q : R (Itt X.K p) H) : ItV X tg σ (.ref p) H R := fun pins s u I1 r1 => by
  cases r1
  obtain ⟨its, rv, pl, hz⟩ := I1.tuple hq
  refine wpAny_pyIter_tuple (show s.heap.IsTuple p its.toArray from pl) ?_
  refine ⟨s.heap.objs.size, [s.heap.objs.size], _, _, H, rfl, I1.kept (t' := s.toks) fun b o e => Heap.get?_push_of_some _ e, turn_tuple p _, ⟨_, Heap.get?_push_size _ rfl, rfl, rfl⟩, fun b hb => ?_, q⟩
  have e : b = s.heap.objs.size := by simpa using hb
  subst e
  exact I1.fpOk (Nat.le_refl _) (I1.hok.fresh (Nat.le_refl _))
theorem itv_str {tg : Expr} {x : Str} {R : L2.It → Hp → Prop} (q : R (Its x) H) : ItV X tg σ (.str x) H R := fun pins s u I1 r1 => by
  obtain ⟨t, rfl⟩ := r1
  cases ha : x.cps.all (· < 128)
  · exact wpAny_pyIter_wide ha (pi_one (tk := s.toks) I1 _ (turn_str _ x t "str_iterator" (.inr rfl)) ⟨_, Heap.get?_push_size _ rfl, rfl, rfl⟩ q)
  · exact wpAny_pyIter_ascii ha (pi_one (tk := s.toks) I1 _ (turn_str _ x t "str_ascii_iterator" (.inl rfl)) ⟨_, Heap.get?_push_size _ rfl, rfl, rfl⟩ q)
theorem src_list {g : G} {P : Hp → Hp → Prop} {p : Addr} {vs : List V} {ds : List D} (h : ∀ F H, P F H → H p = some (.lst vs) ∧ Reps g F vs ds) : SrcOK g (Itl X.K p) P ds := fun F H hp sb i => by
  obtain ⟨h1, r⟩ := h F H hp
  refine ⟨fun d ed => ?_, fun hz => ⟨vs, .inl (.inl h1), by rw [r.length]; exact hz⟩⟩
  obtain ⟨v, ev, rv⟩ := r.get ed
  refine ⟨⟨vs, v, .inl (.inl h1), ev⟩, fun x H' y => ⟨F, by rw [y.1]; exact Grow.refl sb, ?_⟩⟩
  have := y.2 vs (.inl (.inl h1))
  rw [ev] at this
  cases Option.some.inj this
  exact rv
theorem src_tup {g : G} {P : Hp → Hp → Prop} {p : Addr} {vs : List V} {ds : List D} (h : ∀ F H, P F H → SqT X.K H p vs ∧ Reps g F vs ds) : SrcOK g (Itt X.K p) P ds := fun F H hp sb i => by
  obtain ⟨h1, r⟩ := h F H hp
  refine ⟨fun d ed => ?_, fun hz => ⟨vs, h1, by rw [r.length]; exact hz⟩⟩
  obtain ⟨v, ev, rv⟩ := r.get ed
  refine ⟨⟨vs, v, h1, ev⟩, fun x H' y => ⟨F, by rw [y.1]; exact Grow.refl sb, ?_⟩⟩
  have := y.2 vs h1
  rw [ev] at this
  cases Option.some.inj this
  exact rv
theorem src_str {g : G} {P : Hp → Hp → Prop} {cs : List Nat} : SrcOK g (Its (strN cs)) P (cs.map fun k => .str [k]) := fun F H hp sb i => by
  have e1 : ∀ i : Nat, (strN cs).cps[i]? = cs[i]? := fun i => by simp [strN]
  have e2 : (strN cs).cps.size = cs.length := by simp [strN]
  refine ⟨fun d ed => ?_, fun hz => by show (strN cs).cps.size ≤ i; rw [e2]; simpa using hz⟩
  rw [List.getElem?_map] at ed
  obtain ⟨k, ek, rfl⟩ := Option.map_eq_some_iff.mp ed
  refine ⟨by show i < (strN cs).cps.size; rw [e2]; exact (List.getElem?_eq_some_iff.mp ek).1, fun x H' y => ⟨F, by rw [y.1]; exact Grow.refl sb, ?_⟩⟩
  obtain ⟨c', h1, h2⟩ := y.2
  rw [e1, ek] at h1
  cases Option.some.inj h1
  rw [h2]
  exact .str [k] (by rw [sizeLine_eq]; simp)
theorem src_rng {g : G} {P : Hp → Hp → Prop} {lo : Int} {n : Nat} : SrcOK g (Itr lo n) P (rngD lo n) := fun F H hp sb i => by
  unfold rngD
  refine ⟨fun d ed => ?_, fun hz => by show n ≤ i; simpa using hz⟩
  rw [List.getElem?_map] at ed
  obtain ⟨k, ek, rfl⟩ := Option.map_eq_some_iff.mp ed
  obtain ⟨h1, h2⟩ := List.getElem?_eq_some_iff.mp ek
  have h3 : k = i := by rw [← h2]; simp
  subst h3
  refine ⟨by show k < n; simpa using h1, fun x H' y => ⟨F, by rw [y.1]; exact Grow.refl sb, ?_⟩⟩
  rw [y.2]
  exact .int _
end
end Pd

end
section
set_option linter.all false
set_option autoImplicit false
set_option Elab.async false
set_option maxRecDepth 100000
/-! Pd.Snd6: sources, targets, comprehensions. -/
namespace Pd
open PySem PySem.Spec PyProof.Rows L2
section
variable {c : Cc} {W : WX} {X : Cx} {a b : Expr} {as rest : List Expr} {e f : E} {es : List E} {pos : Pos} {F H : Hp} {σ : L2.St} {ρ : Env}
abbrev PI2 (g : G) (R : L2.It → Hp → Prop) : Hp → Hp → List D → Prop := fun F H xs => ∀ J F' H', Grow F H F' H' → xs.length ≤ sizeLine → SrcOK g J (fun F2 H2 => Grow F' H' F2 H2) xs → R J H'
theorem PI2.mono {g : G} {R : L2.It → Hp → Prop} : Mono (PI2 g R) := fun _ _ _ _ _ x h J F' H' y => h J F' H' (x.trans y)
def SI (c : Cc) (tg a : Expr) (it : Pd.It) : Prop := ∀ W X, Okx c W X → ∀ F H ρ σ R, Sub F H → EnvE c.g F H ρ σ → PRx c.g W σ (PI2 c.g R) F H (evi c.Φ it ρ) → WI X tg a σ H R
theorem sqT_mono {K : PySem.W.Frag} {F F' : Hp} {p : Addr} {vs : List V} (s : Same F F') (h : SqT K F p vs) : SqT K F' p vs := by
  rcases h with (h | ⟨o, h⟩) | h
  · exact .inl (.inl (s _ _ h))
  · exact .inl (.inr ⟨o, s _ _ h⟩)
  · exact .inr h
theorem si_seq {tg : Expr} (h : SE c a e) : SI c tg a (.seq e) := fun W X ok F H ρ σ R sb en pr => by
  unfold evi at pr
  refine pi_itv' (h.go ok sb en pr fun s v F' H' fp x o n f nd pr => ?_)
  obtain ⟨xs, ex, q⟩ := PRx.of1 pr
  have lists : ∀ {p : Addr} {vs : List V}, v = .ref p → H' p = some (.lst vs) → vs.length ≤ sizeLine → Reps c.g F' vs xs → ItV X tg σ v H' R := fun {p vs} ev h1 hz r => by
    subst ev
    exact itv_list (.inl (.inl h1)) (q _ F' H' x (by rw [← r.length]; exact hz) (src_list fun F2 H2 y => ⟨y.sameH _ _ h1, Reps.mono (y.same x.sub) xs r⟩))
  unfold seqS at ex
  split at ex
  · cases Option.some.inj ex
    have r := own_fz o
    cases r with
    | lst h1 h2 h3 => exact lists rfl (x.sub.lst h1) h2 h3
  · cases Option.some.inj ex
    obtain ⟨p, vs, e1, _, e3, hz, r⟩ := o
    exact lists e1 e3 hz r
  · cases Option.some.inj ex
    obtain ⟨p, vs, rfl, h1, hz, r, h2⟩ := own_tup x.sub o
    exact itv_tup (by rw [ok.K]; exact h1) (q _ F' H' x (by rw [← r.length]; exact hz) (src_tup fun F2 H2 y => ⟨by rw [ok.K]; exact y.sub.sqT (g := c.g) (sqT_mono (y.same x.sub) h2), Reps.mono (y.same x.sub) _ r⟩))
  · cases Option.some.inj ex
    obtain ⟨rfl, hz⟩ := own_str o
    exact itv_str (q _ F' H' x (by rw [List.length_map]; exact hz) src_str)
  · cases ex
theorem rngD_len (lo : Int) (n : Nat) : (rngD lo n).length = n := by simp [rngD]
theorem okR_of {i : Int} (h : okR i = true) : -(2 ^ 62) ≤ i ∧ i < 2 ^ 62 := of_decide_eq_true h
theorem src_itc {g : G} {P : Hp → Hp → Prop} {lo : Int} {n : Nat} : SrcOK g (Itc lo (-1) n) P ((List.range n).map fun (k : Nat) => .int (lo - k)) := fun F H hp sb i => by
  refine ⟨fun d ed => ?_, fun hz => by show n ≤ i; simpa using hz⟩
  rw [List.getElem?_map] at ed
  obtain ⟨k, ek, rfl⟩ := Option.map_eq_some_iff.mp ed
  obtain ⟨h1, h2⟩ := List.getElem?_eq_some_iff.mp ek
  have h3 : k = i := by rw [← h2]; simp
  subst h3
  refine ⟨by show k < n; simpa using h1, fun x H' y => ⟨F, by rw [y.1]; exact Grow.refl sb, ?_⟩⟩
  rw [y.2]
  have : lo + (k : Int) * (-1) = lo - k := by omega
  rw [this]
  exact .int _
theorem rngS_inv {ds xs : List D} (h : rngS ds = some xs) : (∃ j, ds = [.int j] ∧ okR j = true ∧ j ≤ lim ∧ xs = rngD 0 j.toNat) ∨ (∃ i j, ds = [.int i, .int j] ∧ okR i = true ∧ okR j = true ∧ j - i ≤ lim ∧ xs = rngD i (j - i).toNat) ∨
    (∃ i j, ds = [.int i, .int j, .int (-1)] ∧ okR i = true ∧ okR j = true ∧ i - j ≤ lim ∧ xs = ((List.range (i - j).toNat).map fun (k : Nat) => .int (i - k))) := by
  unfold rngS at h
  split at h
  · rename_i j
    split at h
    · rename_i cc
      obtain ⟨c1, c2⟩ := Bool.and_eq_true_iff.mp cc
      exact .inl ⟨j, rfl, c1, of_decide_eq_true c2, (Option.some.inj h).symm⟩
    · cases h
  · rename_i i j
    split at h
    · rename_i cc
      simp only [Bool.and_eq_true, decide_eq_true_eq] at cc
      exact .inr (.inl ⟨i, j, rfl, cc.1.1, cc.1.2, cc.2, (Option.some.inj h).symm⟩)
    · cases h
  · rename_i i j k
    split at h
    · rename_i cc
      simp only [Bool.and_eq_true, decide_eq_true_eq] at cc
      obtain ⟨⟨⟨c1, c2⟩, c3⟩, c4⟩ := cc
      subst c3
      exact .inr (.inr ⟨i, j, rfl, c1, c2, c4, (Option.some.inj h).symm⟩)
    · cases h
  · cases h
theorem limz {i : Int} (h : i ≤ lim) : i.toNat ≤ sizeLine := by rw [← lim_eq]; omega
theorem si_rng {tg : Expr} {n : Str} {p : Pos} (he : n = "range") (hn : n ∈ c.g.p.bis) (hg : c.sc.names.lookup n = some .globalImplicit) (hs : ∀ x ∈ as, okH x = true) (h3 : as.length = 1 ∨ as.length = 2 ∨ as.length = 3) (hl : es.length = as.length) (h : SA c as es) : SI c tg (.Call (.Name n p) as [] pos) (.rng es) := fun W X ok F H ρ σ R sb en pr => by
  subst he
  have hgl : Gl X "range" := by show X.env.scope.names.lookup _ = _; rw [ok.sc]; exact hg
  have hmg : X.mg "range" = none := by rw [ok.mg]; exact ok.lib.bi _ hn
  unfold evi at pr
  match as, hs, h3, hl, h with
  | [a1], hs, _, hl, h =>
    have s1 := okH_star (hs a1 (by simp)) [] X.env
    refine wi_of (pi_range1 hgl hmg pa_wa s1) ?_
    refine h.goL ok sb en PI2.mono pr fun ds vs F' H' x r hd pr => ?_
    obtain ⟨xs, ex, q⟩ := PRx.of1 pr
    rw [hl] at hd
    rcases rngS_inv ex with ⟨j, rfl, c1, c2, rfl⟩ | ⟨i, j, rfl, c1, c2, c3, rfl⟩ | ⟨i, j, rfl, c1, c2, c3, rfl⟩
    · cases r with
      | cons r1 r2 =>
        cases r2
        cases r1
        obtain ⟨k1, k2⟩ := okR_of c1
        exact ⟨j, rfl, k1, k2, q _ F' H' (Grow.refl x.sub) (by rw [rngD_len]; exact limz c2) src_rng⟩
    · simp at hd
    · simp at hd
  | [a1, a2], hs, _, hl, h =>
    have s2 := okH_star (hs a2 (by simp)) [] X.env
    have s1 := (okH_star (hs a1 (by simp)) [a2] X.env).trans (by rw [s2])
    refine wi_of (pi_range2 hgl hmg pa_wa s1 s2) ?_
    refine h.goL ok sb en PI2.mono pr fun ds vs F' H' x r hd pr => ?_
    obtain ⟨xs, ex, q⟩ := PRx.of1 pr
    rw [hl] at hd
    rcases rngS_inv ex with ⟨j, rfl, c1, c2, rfl⟩ | ⟨i, j, rfl, c1, c2, c3, rfl⟩ | ⟨i, j, rfl, c1, c2, c3, rfl⟩
    · simp at hd
    · cases r with
      | cons r1 r2 =>
        cases r2 with
        | cons r2 r3 =>
          cases r3
          cases r1
          cases r2
          exact ⟨i, j, rfl, ⟨(okR_of c1).1, (okR_of c1).2, (okR_of c2).1, (okR_of c2).2⟩, q _ F' H' (Grow.refl x.sub) (by rw [rngD_len]; exact limz c3) src_rng⟩
    · simp at hd
  | [a1, a2, a3], hs, _, hl, h =>
    have s1 := okH_star (hs a1 (by simp)) [a2, a3] X.env
    have s2 : (backTo pos (starEach [a2, a3] X.env)).any (·.1) = false := any_star fun x hx => hs x (List.mem_cons_of_mem _ hx)
    refine wi_of (pi_range3 hgl hmg pa_wa s1 s2) ?_
    refine h.goL ok sb en PI2.mono pr fun ds vs F' H' x r hd pr => ?_
    obtain ⟨xs, ex, q⟩ := PRx.of1 pr
    rw [hl] at hd
    rcases rngS_inv ex with ⟨j, rfl, c1, c2, rfl⟩ | ⟨i, j, rfl, c1, c2, c3, rfl⟩ | ⟨i, j, rfl, c1, c2, c3, rfl⟩
    · simp at hd
    · simp at hd
    · cases r with
      | cons r1 r2 =>
        cases r2 with
        | cons r2 r3 =>
          cases r3 with
          | cons r3 r4 =>
            cases r4
            cases r1
            cases r2
            cases r3
            exact ⟨i, j, -1, (i - j).toNat, rfl, RgC.neg (okR_of c1).1 (okR_of c1).2 (okR_of c2).1 (okR_of c2).2, q _ F' H' (Grow.refl x.sub) (by rw [List.length_map, List.length_range]; exact limz c3) src_itc⟩
  | [], _, h3, _, _ => simp at h3
  | _ :: _ :: _ :: _ :: _, _, h3, _, _ => simp at h3
end
end Pd

end
section
set_option linter.all false
set_option autoImplicit false
set_option Elab.async false
set_option maxRecDepth 100000
/-! Pd.Snd7: targets, comprehensions. -/
namespace Pd
open PySem PySem.Spec PyProof.Rows L2
/-- frozen values stored one after the other, at slots among vs -/
inductive Stores (g : G) (F : Hp) (vs : List Nat) : Env → L2.St → Env → L2.St → Prop
  | nil {ρ : Env} {σ : L2.St} : Stores g F vs ρ σ ρ σ
  | cons {ρ ρ' : Env} {σ σ' : L2.St} {i : Nat} {v : V} {d : D} : i ∈ vs → Rep g F v d → Stores g F vs (setE ρ i (fz d)) (σ.set i (some v)) ρ' σ' → Stores g F vs ρ σ ρ' σ'
theorem Stores.trans {g : G} {F : Hp} {vs : List Nat} {ρ ρ1 ρ2 : Env} {σ σ1 σ2 : L2.St} (a : Stores g F vs ρ σ ρ1 σ1) (b : Stores g F vs ρ1 σ1 ρ2 σ2) : Stores g F vs ρ σ ρ2 σ2 := by
  induction a with
  | nil => exact b
  | cons h r t ih => exact .cons h r (ih b)
theorem Stores.mono {g : G} {F : Hp} {vs ws : List Nat} (h : ∀ i ∈ vs, i ∈ ws) {ρ ρ1 : Env} {σ σ1 : L2.St} (a : Stores g F vs ρ σ ρ1 σ1) : Stores g F ws ρ σ ρ1 σ1 := by
  induction a with
  | nil => exact .nil
  | cons m r t ih => exact .cons (h _ m) r ih
theorem Stores.len {g : G} {F : Hp} {vs : List Nat} {ρ ρ1 : Env} {σ σ1 : L2.St} (a : Stores g F vs ρ σ ρ1 σ1) : σ1.length = σ.length ∧ ρ1.length = ρ.length ∧ ∀ i, i ∉ vs → σ1[i]? = σ[i]? := by
  induction a with
  | nil => exact ⟨rfl, rfl, fun _ _ => rfl⟩
  | cons m r t ih =>
    obtain ⟨h1, h2, h3⟩ := ih
    refine ⟨by rw [h1, List.length_set], by rw [h2]; unfold setE; rw [List.length_set], fun i hi => ?_⟩
    rw [h3 i hi, List.getElem?_set_ne (fun z => hi (by rw [← z]; exact m))]
theorem EnvE.set {g : G} {F H : Hp} {ρ : Env} {σ : L2.St} {i : Nat} {v : V} {d : D} (en : EnvE g F H ρ σ) (r : Rep g F v d) : EnvE g F H (setE ρ i (fz d)) (σ.set i (some v)) := by
  refine ⟨by unfold setE; rw [List.length_set, List.length_set]; exact en.1, fun j s e => ?_⟩
  unfold setE at e
  by_cases hj : i = j
  · subst hj
    rw [List.getElem?_set] at e
    simp only [if_true] at e
    split at e
    · rename_i hl
      cases Option.some.inj (Option.some.inj e)
      exact ⟨v, [], by rw [List.getElem?_set]; simp [← en.1, hl], ⟨rfl, r⟩, fun a ha => (by cases ha), List.nodup_nil⟩
    · cases e
  · rw [List.getElem?_set_ne hj] at e
    obtain ⟨w, fp, h1, h2⟩ := en.2 j s e
    exact ⟨w, fp, by rw [List.getElem?_set_ne hj]; exact h1, h2⟩
theorem Stores.env {g : G} {F H : Hp} {vs : List Nat} {ρ ρ1 : Env} {σ σ1 : L2.St} (a : Stores g F vs ρ σ ρ1 σ1) (en : EnvE g F H ρ σ) : EnvE g F H ρ1 σ1 := by
  induction a with
  | nil => exact en
  | cons m r t ih => exact ih (en.set r)
theorem wipe_len (ρ : Env) : ∀ vs : List Nat, (Pd.wipe ρ vs).length = ρ.length
  | [] => rfl
  | v :: vs => by
    show ((Pd.wipe ρ vs).set v none).length = _
    rw [List.length_set, wipe_len ρ vs]
theorem wipe_get {ρ : Env} {i : Nat} {x : SV} : ∀ {vs : List Nat}, (Pd.wipe ρ vs)[i]? = some (some x) → ρ[i]? = some (some x) ∧ i ∉ vs
  | [], h => ⟨h, by simp⟩
  | v :: vs, h => by
    have h : ((Pd.wipe ρ vs).set v none)[i]? = some (some x) := h
    by_cases hv : v = i
    · subst hv
      rw [List.getElem?_set] at h
      simp only [if_true] at h
      split at h <;> cases h
    · rw [List.getElem?_set_ne hv] at h
      obtain ⟨h1, h2⟩ := wipe_get h
      exact ⟨h1, fun z => by rcases List.mem_cons.mp z with z | z; exact hv z.symm; exact h2 z⟩
theorem wipe_eq {σ σ' : L2.St} {vs : List Nat} (hl : σ'.length = σ.length) (h : ∀ i, i ∉ vs → σ'[i]? = σ[i]?) : L2.wipe σ' vs = L2.wipe σ vs := by
  refine List.ext_getElem? fun i => ?_
  have key : ∀ (vs : List Nat) (τ : L2.St) (i : Nat), (L2.wipe τ vs)[i]? = if i ∈ vs then (if i < τ.length then some none else none) else τ[i]? := by
    intro vs
    induction vs with
    | nil => intro τ i; simp [L2.wipe]
    | cons v vs ih =>
      intro τ i
      show ((L2.wipe τ vs).set v none)[i]? = _
      by_cases hv : v = i
      · subst hv
        rw [List.getElem?_set]
        simp [wipe_length]
      · rw [List.getElem?_set_ne hv, ih]
        have : (i ∈ v :: vs) ↔ i ∈ vs := by simp [Ne.symm hv]
        simp only [this]
  rw [key, key, hl]
  split
  · rfl
  · exact h i ‹_›
theorem wipe_wipe {σ : L2.St} {vs : List Nat} : L2.wipe (L2.wipe σ vs) vs = L2.wipe σ vs := wipe_eq (wipe_length _ _) fun i hi => wipe_out hi
theorem EnvE.wipe {g : G} {F H : Hp} {ρ : Env} {σ : L2.St} (en : EnvE g F H ρ σ) (vs : List Nat) : EnvE g F H (Pd.wipe ρ vs) (L2.wipe σ vs) := by
  refine ⟨by rw [wipe_len, wipe_length]; exact en.1, fun i s e => ?_⟩
  obtain ⟨h1, h2⟩ := wipe_get e
  obtain ⟨v, fp, h3, h4⟩ := en.2 i s h1
  exact ⟨v, fp, by rw [wipe_out h2]; exact h3, h4⟩
mutual
def tgv : Tg → List Nat
  | .nm i => [i]
  | .tu ts => tgvs ts
def tgvs : List Tg → List Nat
  | [] => []
  | t :: ts => tgv t ++ tgvs ts
end
def WG (X : Cx) (tg : Expr) : TG := fun v σ H Q => ∀ pins s u, Inv X pins σ H s → RelV v u → wpAny (model X.prog X.w) X.A (assign tg X.env u) (fun _ s' => ∃ σ' H', Inv X pins σ' H' s' ∧ Q σ' H') X.xe s
theorem pg_wg {X : Cx} {tg : Expr} : PG X tg (WG X tg) := ⟨fun pins s σ H v u Q I r h => h pins s u I r⟩
theorem wg_of {X : Cx} {tg : Expr} {t : TG} {v : V} {σ : L2.St} {H : Hp} {Q : L2.St → Hp → Prop} (h : PG X tg t) (q : t v σ H Q) : WG X tg v σ H Q := fun pins s u I r => h.run pins s σ H v u Q I r q
def WGs (X : Cx) (ts : List Expr) : TGs := fun vs σ H Q => ∀ pins s us, Inv X pins σ H s → Vals vs us → wpAny (model X.prog X.w) X.A (assignInOrder ((assignEach ts X.env).map (·.2)) us) (fun _ s' => ∃ σ' H', Inv X pins σ' H' s' ∧ Q σ' H') X.xe s
theorem pgs_wgs {X : Cx} {ts : List Expr} : PGs X ts (WGs X ts) := ⟨fun pins s σ H vs us Q I r h => h pins s us I r⟩
theorem wgs_of {X : Cx} {ts : List Expr} {t : TGs} {vs : List V} {σ : L2.St} {H : Hp} {Q : L2.St → Hp → Prop} (h : PGs X ts t) (q : t vs σ H Q) : WGs X ts vs σ H Q := fun pins s us I r => h.run pins s σ H vs us Q I r q
def SG (c : Cc) (a : Expr) (tg : Tg) : Prop := ∀ W X, Okx c W X → ∀ F H ρ σ v d ρ' Q, Sub F H → Rep c.g F v d → bindTg tg d ρ = some ρ' → (∀ σ', Stores c.g F (tgv tg) ρ σ ρ' σ' → Q σ' H) → WG X a v σ H Q
def SGs (c : Cc) (as : List Expr) (tgs : List Tg) : Prop := ∀ W X, Okx c W X → ∀ F H ρ σ vs ds ρ' Q, Sub F H → Reps c.g F vs ds → bindTgs tgs ds ρ = some ρ' → (∀ σ', Stores c.g F (tgvs tgs) ρ σ ρ' σ' → Q σ' H) → WGs X as vs σ H Q
def okG : Expr → Bool
  | .Starred _ _ => false
  | _ => true
section
variable {c : Cc} {W : WX} {X : Cx} {a b : Expr} {as rest : List Expr} {e f : E} {es : List E} {pos : Pos} {F H : Hp} {σ : L2.St} {ρ : Env} {t : Tg} {ts : List Tg}
def locB (c : Cc) (x : Str) : Prop := Loc c.sc x ∧ (c.fnl x = true ∨ c.sc.names.lookup x = some .local)
theorem sg_nm {i : Nat} {x : Str} (hi : c.N[i]? = some x) (hl : locB c x) : SG c (.Name x pos) (.nm i) := fun W X ok F H ρ σ v d ρ' Q sb r e k => by
  refine wg_of (pg_name ok.ndX (by rw [ok.N]; exact hi) (by rw [ok.sc]; exact hl.1) (by
    rcases hl.2 with z | z
    · exact .inl (ok.fn x z)
    · exact .inr (by rw [ok.sc]; exact z))) ?_
  unfold bindTg at e
  cases Option.some.inj e
  exact k _ (.cons (by simp [tgv]) r .nil)
theorem okG_cons (h : okG a = true) (as : List Expr) (env : PySem.Env) : assignEach (a :: as) env = (false, assign a env) :: assignEach as env := by
  cases a <;> first | rfl | (simp [okG] at h; done)
theorem assignEach_len (env : PySem.Env) : ∀ as : List Expr, (∀ a ∈ as, okG a = true) → (assignEach as env).length = as.length ∧ (assignEach as env).findIdx? (·.1) = none
  | [], _ => ⟨rfl, rfl⟩
  | a :: as, h => by
    rw [okG_cons (h a List.mem_cons_self)]
    obtain ⟨h1, h2⟩ := assignEach_len env as fun x hx => h x (List.mem_cons_of_mem _ hx)
    refine ⟨by rw [List.length_cons, List.length_cons, h1], ?_⟩
    rw [List.findIdx?_cons, h2]
    rfl
theorem bindTgs_len : ∀ {ts : List Tg} {ds : List D} {ρ ρ' : Env}, bindTgs ts ds ρ = some ρ' → ds.length = ts.length
  | [], [], _, _, _ => rfl
  | [], _ :: _, _, _, h => by simp [bindTgs] at h
  | _ :: _, [], _, _, h => by simp [bindTgs] at h
  | t :: ts, d :: ds, ρ, ρ', h => by
    unfold bindTgs at h
    split at h
    · rw [List.length_cons, List.length_cons, bindTgs_len h]
    · cases h
theorem sg_tu {k : Nat} (h : SGs c as ts) (hs : ∀ a ∈ as, okG a = true) (hl : ts.length = as.length) : SG c (.Tuple as k pos) (.tu ts) := fun W X ok F H ρ σ v d ρ' Q sb r e q => by
  obtain ⟨h1, h2⟩ := assignEach_len X.env as hs
  refine wg_of (pg_tup ok.calm pgs_wgs h1 h2) ?_
  unfold bindTg at e
  split at e
  · rename_i xs
    cases r with
    | tup r1 r2 r3 =>
      refine ⟨_, _, rfl, by rw [ok.K]; exact sb.sqT (g := c.g) r1, ?_, h W X ok F H ρ σ _ xs ρ' Q sb r3 e fun σ' st => q σ' st⟩
      rw [r3.length, bindTgs_len e, hl]
  · cases e
theorem sgs_nil : SGs c [] [] := fun W X ok F H ρ σ vs ds ρ' Q sb r e q => by
  cases ds with
  | nil =>
    cases r
    unfold bindTgs at e
    cases Option.some.inj e
    exact wgs_of pgs_nil ⟨rfl, q σ .nil⟩
  | cons d ds => simp [bindTgs] at e
theorem sgs_cons (h1 : SG c a t) (ha : okG a = true) (h2 : SGs c as ts) : SGs c (a :: as) (t :: ts) := fun W X ok F H ρ σ vs ds ρ' Q sb r e q => by
  cases ds with
  | nil => simp [bindTgs] at e
  | cons d ds =>
    cases r with
    | cons r1 r2 =>
      unfold bindTgs at e
      split at e
      · rename_i ρ1 e1
        refine wgs_of (pgs_cons pg_wg pgs_wgs (by rw [okG_cons ha]; rfl)) ⟨_, _, rfl, ?_⟩
        refine h1 W X ok F H ρ σ _ d ρ1 _ sb r1 e1 fun σ1 st1 => ?_
        refine h2 W X ok F H ρ1 σ1 _ ds ρ' _ sb r2 e fun σ2 st2 => ?_
        exact q σ2 ((st1.mono fun i hi => List.mem_append_left _ hi).trans (st2.mono fun i hi => List.mem_append_right _ hi))
      · cases e
end
end Pd

end
section
set_option linter.all false
set_option autoImplicit false
set_option Elab.async false
set_option maxRecDepth 100000
/-! Pd.Snd8: comprehensions. -/
namespace Pd
open PySem PySem.Spec PyProof.Rows L2
def WTs (X : Cx) (ifs : List Expr) : TT := fun σ H Q => ∀ pins s, Inv X pins σ H s → wpAny (model X.prog X.w) X.A (forIn ifs true fun c r => if r = true then do let ok ← isTrue c X.env (eval c X.env); pure (ForInStep.yield ok) else pure (ForInStep.yield r)) (TP X pins σ Q) X.xe s
theorem pts_wts {X : Cx} {ifs : List Expr} : PTs X ifs (WTs X ifs) := ⟨fun pins s σ H Q I h => h pins s I⟩
def STs (c : Cc) (as : List Expr) (es : List E) : Prop := ∀ W X, Okx c W X → ∀ F H ρ σ Q, Sub F H → EnvE c.g F H ρ σ → PRx c.g W σ (PT2 Q) F H (evt c.Φ es ρ) → WTs X as σ H Q
/-- the block of a comprehension -/
def Cc.blk (c : Cc) (scope : Scope) : Cc := { c with sc := relS scope c.sc, fnl := fun x => scope.names.lookup x == some .cell }
def WF : WX := fun _ _ _ _ => False
section
variable {c : Cc} {W : WX} {X : Cx} {a b : Expr} {as rest : List Expr} {e f : E} {es : List E} {pos : Pos} {F H : Hp} {σ : L2.St} {ρ : Env} {t : Tg} {ts : List Tg}
theorem sts_nil : STs c [] [] := fun W X ok F H ρ σ Q sb en pr pins s I => by
  unfold evt at pr
  exact pts_nil.run pins s σ H Q I (pr F H (Grow.refl sb))
theorem sts_one (h : ST c a e) : STs c [a] [e] := fun W X ok F H ρ σ Q sb en pr pins s I => by
  unfold evt at pr
  exact (pts_one pt_wt).run pins s σ H Q I (h W X ok F H ρ σ Q sb en pr)
theorem Okx.blk (ok : Okx c W X) {scope : Scope} (s : Shared) (H : Hp) (C : Addr) (cl : List (Str × Addr)) (fp : List Addr) : Okx (c.blk scope) WF (X.blk s H scope (compEnvC scope cl C X.env) fp) where
  pr := ok.pr
  w := ok.w
  K := ok.K
  calm := ok.calm
  mg := ok.mg
  base := ok.base
  N := ok.N
  nd := ok.nd
  sc := by
    show relS scope X.env.scope = relS scope c.sc
    rw [ok.sc]
  fn := fun x h => h
  room := ok.room
  tk := takes_none5
  lib := ok.lib
  lvl := ok.lvl
/-- what a turn of the comprehension does -/
def compB (Φ : Phi) (elt : E) (tg : Tg) (ifs : List E) (ρ0 : Env) (x : D) : R (Option D) := match bindTg tg x ρ0 with
  | none => .bad
  | some ρ' => (match evt Φ ifs ρ' with
    | .ok true => (match ev Φ elt ρ' with
      | .ok s => (match fr elt s with | some d => .ok (some d) | none => .bad)
      | _ => .bad)
    | .ok false => .ok none
    | _ => .bad)
theorem ev_comp {Φ : Phi} {elt : E} {tg : Tg} {it : Pd.It} {ifs : List E} {own : List Nat} : ev Φ (.comp elt tg it ifs own) ρ = (evi Φ it ρ >>= fun xs => compL (compB Φ elt tg ifs (Pd.wipe ρ own)) xs >>= fun out => R.ok (oL out)) := by
  rw [ev]
  rfl
theorem compL_cons {f : D → R (Option D)} {x : D} {xs out : List D} (h : compL f (x :: xs) = .ok out) : (f x = .ok none ∧ compL f xs = .ok out) ∨ ∃ d ds, f x = .ok (some d) ∧ compL f xs = .ok ds ∧ out = d :: ds := by
  unfold compL at h
  split at h
  · rename_i q
    exact .inl ⟨q, h⟩
  · rename_i d q
    split at h
    · rename_i ds q2
      cases h
      exact .inr ⟨d, ds, q, q2, rfl⟩
    · cases h
  · cases h
theorem compL_noexc {f : D → R (Option D)} : ∀ {xs : List D} {k : Nat}, compL f xs ≠ .exc k
  | [], k => by simp [compL]
  | x :: xs, k => by
    unfold compL
    split
    · exact compL_noexc
    · split <;> simp
    · simp
theorem compB_none {Φ : Phi} {elt : E} {tg : Tg} {ifs : List E} {ρ0 : Env} {x : D} (h : compB Φ elt tg ifs ρ0 x = .ok none) : ∃ ρ', bindTg tg x ρ0 = some ρ' ∧ evt Φ ifs ρ' = .ok false := by
  unfold compB at h
  split at h
  · cases h
  · rename_i ρ' q
    refine ⟨ρ', q, ?_⟩
    split at h
    · split at h
      · split at h <;> cases h
      · cases h
    · assumption
    · cases h
theorem compB_some {Φ : Phi} {elt : E} {tg : Tg} {ifs : List E} {ρ0 : Env} {x d : D} (h : compB Φ elt tg ifs ρ0 x = .ok (some d)) : ∃ ρ' s, bindTg tg x ρ0 = some ρ' ∧ evt Φ ifs ρ' = .ok true ∧ ev Φ elt ρ' = .ok s ∧ fr elt s = some d := by
  unfold compB at h
  split at h
  · cases h
  · rename_i ρ' q
    split at h
    · rename_i q2
      split at h
      · rename_i s q3
        split at h
        · rename_i d' q4
          cases h
          exact ⟨ρ', s, q, q2, q3, q4⟩
        · cases h
      · cases h
    · cases h
    · cases h
theorem comp_tLc {elt : Expr} {tg iter : Expr} {ifs : List Expr} {scope : Scope} {ce : E} {ct : Tg} {ci : Pd.It} {cf : List E} {own : List (Str × Nat)} (hb : blkC c.N c.sc scope own = true) (hv : ∀ i ∈ tgv ct, i ∈ own.map (·.2)) (hi : okH iter = true) (h1 : SI c tg iter ci) (h2 : SG (c.blk scope) tg ct) (h3 : STs (c.blk scope) ifs cf) (h4 : SE (c.blk scope) elt ce)
    {Q : VK} {fr : Bool} (ok : Okx c W X) (sb : Sub F H) (en : EnvE c.g F H ρ σ) (pr : PRx c.g W σ (PV c.g fr Q) F H (ev c.Φ (.comp ce ct ci cf (own.map (·.2))) ρ)) :
    tLc (WI X tg iter) (fun v σ H Q => ∀ s0 H0 C cl fp, WG (X.blk s0 H0 scope (compEnvC scope cl C X.env) fp) tg v σ H Q) (fun σ H Q => ∀ s0 H0 C cl fp, WTs (X.blk s0 H0 scope (compEnvC scope cl C X.env) fp) ifs σ H Q)
      (fun σ H Q => ∀ s0 H0 C cl fp, WE (X.blk s0 H0 scope (compEnvC scope cl C X.env) fp) elt σ H Q) (own.map (·.2)) σ H Q := by
  rw [ev_comp] at pr
  refine h1 W X ok F H ρ σ _ sb en ?_
  cases q0 : evi c.Φ ci ρ with
  | exc c' => rw [q0] at pr; exact pr
  | bad => rw [q0] at pr; exact pr.elim
  | ok xs =>
    rw [q0] at pr
    intro J F1 H1 x1 hz src D hD
    cases q1 : compL (compB c.Φ ce ct cf (Pd.wipe ρ (own.map (·.2)))) xs with
    | exc k => exact absurd q1 compL_noexc
    | bad => rw [R.ok_bind, q1] at pr; exact pr.elim
    | ok out =>
      rw [R.ok_bind, q1] at pr
      have hDF : F1 D = none := x1.sub.none hD
      let Iv : Nat → Hp → Prop := fun i H2 => i ≤ xs.length ∧ ∃ F2 acc ds rest, Grow F1 H1 F2 H2 ∧ H2 D = some (.lst acc) ∧ F2 D = none ∧ acc.length ≤ i ∧ Reps c.g F2 acc ds ∧ compL (compB c.Φ ce ct cf (Pd.wipe ρ (own.map (·.2)))) (xs.drop i) = .ok rest ∧ out = ds ++ rest
      refine ⟨fun i m H2 => m = xs.length - i ∧ Iv i H2, ⟨xs.length, by omega, Nat.zero_le _, F1, [], [], out, Grow.own x1.sub hD, upd_same, hDF, Nat.le_refl _, .nil, q1, rfl⟩, fun i m H2 ⟨hm, hi2, F2, acc, ds, rest, g2, hH, hF, ha, hr, hc, ho⟩ => ?_⟩
      obtain ⟨s1, s2⟩ := src F2 H2 g2 g2.sub i
      by_cases hlt : i < xs.length
      · obtain ⟨d, hd⟩ : ∃ d, xs[i]? = some d := ⟨xs[i], List.getElem?_eq_getElem hlt⟩
        obtain ⟨go, yl⟩ := s1 d hd
        refine .inr ⟨go, fun H' => Iv (i + 1) H', fun H' h' => ⟨xs.length - (i + 1), by omega, rfl, h'⟩, fun v H' y => ?_⟩
        obtain ⟨FZ, gz, rv⟩ := yl v H' y
        have hF : FZ D = none := by rw [(gz.keep D _ hH).2]; exact hF
        have hH := (gz.keep D _ hH).1
        have hr := Reps.mono (gz.same g2.sub) ds hr
        have g2 := g2.trans gz
        have hdrop : xs.drop i = d :: xs.drop (i + 1) := by
          rw [List.drop_eq_getElem_cons hlt]
          rw [List.getElem?_eq_getElem hlt] at hd
          rw [Option.some.inj hd]
        rw [hdrop] at hc
        have en2 : EnvE c.g FZ H' ρ σ := (en.grow sb x1).grow x1.sub g2
        have hz2 : acc.length < sizeLine := by omega
        rcases compL_cons hc with ⟨b1, b2⟩ | ⟨d', ds', b1, b2, b3⟩
        · obtain ⟨ρ', c1, c2⟩ := compB_none b1
          intro s0 H0 C cl fp
          refine h2 WF _ (ok.blk s0 H0 C cl fp) FZ H' (Pd.wipe ρ (own.map (·.2))) _ v d ρ' _ g2.sub rv c1 fun σ2 st => ?_
          have st' := st.mono hv
          obtain ⟨l1, l2, l3⟩ := st'.len
          refine ⟨(wipe_eq l1 l3).trans wipe_wipe, fun s0 H0 C cl fp => ?_⟩
          refine h3 WF _ (ok.blk s0 H0 C cl fp) FZ H' ρ' σ2 _ g2.sub (st'.env (en2.wipe _)) ?_
          rw [show evt (c.blk scope).Φ cf ρ' = .ok false from c2]
          intro F3 H3 x3
          rw [if_neg (by decide)]
          exact ⟨hlt, F3, acc, ds, rest, g2.trans x3, (x3.keep D _ hH).1, by rw [(x3.keep D _ hH).2]; exact hF, by omega, Reps.mono (x3.same g2.sub) ds hr, b2, ho⟩
        · obtain ⟨ρ', s, c1, c2, c3, c4⟩ := compB_some b1
          intro s0 H0 C cl fp
          refine h2 WF _ (ok.blk s0 H0 C cl fp) FZ H' (Pd.wipe ρ (own.map (·.2))) _ v d ρ' _ g2.sub rv c1 fun σ2 st => ?_
          have st' := st.mono hv
          obtain ⟨l1, l2, l3⟩ := st'.len
          refine ⟨(wipe_eq l1 l3).trans wipe_wipe, fun s0 H0 C cl fp => ?_⟩
          refine h3 WF _ (ok.blk s0 H0 C cl fp) FZ H' ρ' σ2 _ g2.sub (st'.env (en2.wipe _)) ?_
          rw [show evt (c.blk scope).Φ cf ρ' = .ok true from c2]
          intro F3 H3 x3
          rw [if_pos rfl]
          intro s0 H0 C cl fp
          have en3 : EnvE c.g F3 H3 ρ' σ2 := (st'.env (en2.wipe _)).grow g2.sub x3
          refine h4 WF _ (ok.blk s0 H0 C cl fp) F3 H3 ρ' σ2 _ x3.sub en3 ?_
          rw [show ev (c.blk scope).Φ ce ρ' = .ok s from c3]
          intro y F4 H4 fq x4 o4 n4 f4 nd4
          obtain ⟨F5, x5, r5⟩ := keep_fr x3.sub x4 o4 n4 f4 c4
          have g5 : Grow FZ H' F5 H4 := x3.trans x5
          obtain ⟨k1, k2⟩ := g5.keep D _ hH
          refine ⟨acc, k1, hz2, hlt, F5, acc ++ [y], ds ++ [d'], ds', ⟨?_, ?_⟩, upd_same, by rw [k2]; exact hF, by rw [List.length_append]; simp; omega, (Reps.mono (g5.same g2.sub) ds hr).append (.cons r5 .nil), b2, by rw [ho, b3]; simp⟩
          · intro a' u hu
            have na : a' ≠ D := fun z => by rw [z, k2, hF] at hu; cases hu
            rw [upd_ne na]
            exact g5.sub a' u hu
          · intro a' u hu
            have na : a' ≠ D := ne_of_none hu hD
            rw [upd_ne na]
            exact (g2.trans g5).keep a' u hu
      · refine .inl ⟨s2 (by omega), ?_⟩
        have he : xs.drop i = [] := List.drop_eq_nil_iff.mpr (by omega)
        rw [he] at hc
        have hre : rest = [] := by unfold compL at hc; cases hc; rfl
        rw [hre, List.append_nil] at ho
        rw [ho] at pr
        exact pr (.ref D) F2 H2 [D] (x1.trans g2) ⟨D, acc, rfl, rfl, hH, by omega, hr⟩ (fun _ a' ha' => by cases List.mem_singleton.mp ha'; exact x1.none hD) (fun a' ha' => by cases List.mem_singleton.mp ha'; exact hF) (by simp)
theorem se_comp {elt : Expr} {tg iter : Expr} {ifs : List Expr} {scope : Scope} {ce : E} {ct : Tg} {ci : Pd.It} {cf : List E} {own : List (Str × Nat)} (hb : blkC c.N c.sc scope own = true) (hv : ∀ i ∈ tgv ct, i ∈ own.map (·.2)) (hi : okH iter = true) (h1 : SI c tg iter ci) (h2 : SG (c.blk scope) tg ct) (h3 : STs (c.blk scope) ifs cf) (h4 : SE (c.blk scope) elt ce) :
    SE c (.ListComp elt [⟨tg, iter, ifs, 0⟩] scope pos) (.comp ce ct ci cf (own.map (·.2))) := fun W X ok F H ρ σ Q sb en pr =>
  we_of (pe_lc (own := own) ok.calm ok.ndX pi_wi (blkOk_by (by rw [ok.N, ok.sc]; exact hb)) (fun s0 H0 C cl fp => ⟨fun pins s σ H v u Q I r h => pg_wg.run pins s σ H v u Q I r (h s0 H0 C cl fp)⟩)
    (fun s0 H0 C cl fp => ⟨fun pins s σ H Q I h => h s0 H0 C cl fp pins s I⟩) (fun s0 H0 C cl fp => ⟨fun pins s σ H Q I h => h s0 H0 C cl fp pins s I⟩) (okH_fold hi X.env)) (comp_tLc hb hv hi h1 h2 h3 h4 ok sb en pr)
end
end Pd

end
section
set_option linter.all false
set_option autoImplicit false
set_option Elab.async false
set_option maxRecDepth 100000
/-! Pd.Sts1: states of statements. -/
namespace Pd
open PySem PySem.Spec PyProof.Rows L2
/-- the entry of a body -/
structure Bs where
  Fk : Hp
  F0 : Hp
  H0 : Hp
  io0 : List Addr
  io : List Nat
  σ0 : L2.St
structure EnvF (g : G) (B : Bs) (F H : Hp) (ρ : Env) (σ : L2.St) (fp : Nat → List Addr) : Prop where
  len : ρ.length = σ.length
  sub : Sub F H
  own : ∀ (i : Nat) (s : SV), ρ[i]? = some (some s) → ∃ v, σ[i]? = some (some v) ∧ OwnS g F H v s (fp i)
  there : ∀ i, ∀ a ∈ fp i, ∃ o, H a = some o
  non : ∀ i, ∀ a ∈ fp i, F a = none
  nd : ∀ i, (fp i).Nodup
  dj : ∀ i j, i ≠ j → ∀ a ∈ fp i, a ∉ fp j
  from_ : ∀ i, ∀ a ∈ fp i, a ∈ B.io0 ∨ B.H0 a = none
  keep : ∀ a o, B.H0 a = some o → a ∉ B.io0 → H a = some o ∧ F a = B.F0 a
  slots : ∀ i ∈ B.io, σ[i]? = B.σ0[i]?
  kn : Same B.Fk F
def EnvR (g : G) (B : Bs) (F H : Hp) (ρ : Env) (σ : L2.St) : Prop := ∃ fp, EnvF g B F H ρ σ fp
section
variable {g : G} {B : Bs} {F H F' H' : Hp} {ρ : Env} {σ : L2.St} {fp : Nat → List Addr}
theorem EnvF.env (en : EnvF g B F H ρ σ fp) : EnvE g F H ρ σ := ⟨en.len, fun i s e => by
  obtain ⟨v, h1, h2⟩ := en.own i s e
  exact ⟨v, fp i, h1, h2, en.non i, en.nd i⟩⟩
theorem EnvF.grow (en : EnvF g B F H ρ σ fp) (x : Grow F H F' H') : EnvF g B F' H' ρ σ fp where
  len := en.len
  sub := x.sub
  own := fun i s e => by
    obtain ⟨v, h1, h2⟩ := en.own i s e
    exact ⟨v, h1, h2.grow en.sub x⟩
  there := fun i a ha => by
    obtain ⟨o, ho⟩ := en.there i a ha
    exact ⟨o, (x.keep a o ho).1⟩
  non := fun i a ha => by
    obtain ⟨o, ho⟩ := en.there i a ha
    rw [(x.keep a o ho).2]
    exact en.non i a ha
  nd := en.nd
  dj := en.dj
  from_ := en.from_
  keep := fun a o h n => by
    obtain ⟨h1, h2⟩ := en.keep a o h n
    obtain ⟨k1, k2⟩ := x.keep a o h1
    exact ⟨k1, k2.trans h2⟩
  slots := en.slots
  kn := fun a u e => x.same en.sub a u (en.kn a u e)
theorem EnvR.sub (en : EnvR g B F H ρ σ) : Sub F H := let ⟨_, e⟩ := en; e.sub
theorem EnvR.env (en : EnvR g B F H ρ σ) : EnvE g F H ρ σ := let ⟨_, e⟩ := en; e.env
theorem EnvR.grow (en : EnvR g B F H ρ σ) (x : Grow F H F' H') : EnvR g B F' H' ρ σ := let ⟨fp, e⟩ := en; ⟨fp, e.grow x⟩
/-- what stands apart from the slots -/
structure Apart (B : Bs) (F : Hp) (fp : Nat → List Addr) (fq : List Addr) : Prop where
  nd : fq.Nodup
  non : ∀ a ∈ fq, F a = none
  dj : ∀ i, ∀ a ∈ fp i, a ∉ fq
  from_ : ∀ a ∈ fq, a ∈ B.io0 ∨ B.H0 a = none
theorem Apart.nil {F : Hp} : Apart B F fp [] := ⟨List.nodup_nil, fun _ h => (by cases h), fun _ _ _ h => (by cases h), fun _ h => (by cases h)⟩
/-- what is new is apart -/
theorem EnvF.apart (en : EnvF g B F H ρ σ fp) {fq : List Addr} (nd : fq.Nodup) (non : ∀ a ∈ fq, F' a = none) (n : ∀ a ∈ fq, H a = none) : Apart B F' fp fq where
  nd := nd
  non := non
  dj := fun i a ha hq => by
    obtain ⟨o, ho⟩ := en.there i a ha
    rw [n a hq] at ho
    cases ho
  from_ := fun a ha => by
    cases q : B.H0 a with
    | none => exact .inr rfl
    | some o =>
      by_cases hi : a ∈ B.io0
      · exact .inl hi
      · have := (en.keep a o q hi).1
        rw [n a ha] at this
        cases this
/-- a slot is written -/
theorem EnvF.set (en : EnvF g B F H ρ σ fp) {i : Nat} {v : V} {s : SV} {fq : List Addr} (o : OwnS g F H v s fq) (ap : Apart B F fp fq) (hi : i ∉ B.io) : EnvF g B F H (setE ρ i s) (σ.set i (some v)) (fun j => if j = i then fq else fp j) where
  len := by unfold setE; rw [List.length_set, List.length_set]; exact en.len
  sub := en.sub
  own := fun j t e => by
    unfold setE at e
    by_cases hj : i = j
    · subst hj
      rw [List.getElem?_set] at e
      simp only [if_true] at e ⊢
      split at e
      · rename_i hl
        cases Option.some.inj (Option.some.inj e)
        exact ⟨v, by rw [List.getElem?_set]; simp [← en.len, hl], o⟩
      · cases e
    · rw [List.getElem?_set_ne hj] at e
      obtain ⟨w, h1, h2⟩ := en.own j t e
      rw [if_neg (Ne.symm hj)]
      exact ⟨w, by rw [List.getElem?_set_ne hj]; exact h1, h2⟩
  there := fun j a ha => by
    try dsimp only at ha
    split at ha
    · obtain ⟨ob, h1, _⟩ := o.fp_some a ha
      exact ⟨ob, h1⟩
    · exact en.there j a ha
  non := fun j a ha => by
    try dsimp only at ha
    split at ha
    · exact ap.non a ha
    · exact en.non j a ha
  nd := fun j => by
    show (if j = i then fq else fp j).Nodup
    split
    · exact ap.nd
    · exact en.nd j
  dj := fun j k hjk a ha hb => by
    split at ha
    · split at hb
      · omega
      · exact ap.dj k a hb ha
    · split at hb
      · exact ap.dj j a ha hb
      · exact en.dj j k hjk a ha hb
  from_ := fun j a ha => by
    try dsimp only at ha
    split at ha
    · exact ap.from_ a ha
    · exact en.from_ j a ha
  keep := en.keep
  slots := fun j hj => by rw [List.getElem?_set_ne (fun z => hi (by rw [z]; exact hj))]; exact en.slots j hj
  kn := en.kn
theorem EnvR.set (en : EnvF g B F H ρ σ fp) {i : Nat} {v : V} {s : SV} {fq : List Addr} (o : OwnS g F H v s fq) (ap : Apart B F fp fq) (hi : i ∉ B.io) : EnvR g B F H (setE ρ i s) (σ.set i (some v)) := ⟨_, en.set o ap hi⟩
theorem EnvR.setD (en : EnvR g B F H ρ σ) {i : Nat} {v : V} {d : D} (r : Rep g F v d) (hi : i ∉ B.io) : EnvR g B F H (setE ρ i (fz d)) (σ.set i (some v)) := let ⟨_, e⟩ := en; ⟨_, e.set (s := fz d) (fq := []) ⟨rfl, r⟩ .nil hi⟩
theorem Stores.envR {vs : List Nat} {ρ1 : Env} {σ1 : L2.St} (a : Stores g F vs ρ σ ρ1 σ1) (hv : ∀ i ∈ vs, i ∉ B.io) (en : EnvR g B F H ρ σ) : EnvR g B F H ρ1 σ1 := by
  induction a with
  | nil => exact en
  | cons m r t ih => exact ih (en.setD r (hv _ m))
/-- own values are frozen -/
def frzF (F H : Hp) (fq : List Addr) : Hp := fun a => if a ∈ fq then H a else F a
theorem frzF_same {fq : List Addr} (non : ∀ a ∈ fq, F a = none) : Same F (frzF F H fq) := fun a u e => by
  have na : a ∉ fq := fun z => by rw [non a z] at e; cases e
  unfold frzF
  rw [if_neg na]
  exact e
theorem frzF_sub {fq : List Addr} (sb : Sub F H) : Sub (frzF F H fq) H := fun a u e => by
  unfold frzF at e
  split at e
  · exact .inl e
  · exact sb a u e
theorem OwnO.same {F F' H : Hp} (sm : Same F F') {v : V} : ∀ {y : OV} {fp : List Addr}, OwnO g F H v y fp → OwnO g F' H v y fp
  | .fz d, fp, h => ⟨h.1, Rep.mono sm d h.2⟩
  | .lst xs, fp, h => by
    obtain ⟨a, vs, e1, e2, e3, z, r⟩ := h
    exact ⟨a, vs, e1, e2, e3, z, Reps.mono sm xs r⟩
  | .dct ks ds, fp, h => by
    obtain ⟨a, es, e1, e2, e3, z, r1, r2, r3⟩ := h
    exact ⟨a, es, e1, e2, e3, z, Reps.mono sm ks r1, Reps.mono sm ds r2, r3⟩
  | .dcl ks dss, fp, h => by
    obtain ⟨a, es, as, e1, e2, e3, z, r1, r2, r3, r4⟩ := h
    exact ⟨a, es, as, e1, e2, e3, z, Reps.mono sm ks r1, r2, Paired.mapP r3 (fun b xs ⟨vs, q1, q2, q3⟩ => ⟨vs, q1, q2, Reps.mono sm xs q3⟩), r4⟩
theorem OwnOs.same {F F' H : Hp} (sm : Same F F') : ∀ {vs : List V} {ys : List OV} {fps : List (List Addr)}, OwnOs g F H vs ys fps → OwnOs g F' H vs ys fps
  | _, _, _, .nil => .nil
  | _, _, _, .cons h t => .cons (OwnO.same sm h) (OwnOs.same sm t)
theorem OwnS.same {F F' H : Hp} (sm : Same F F') {v : V} : ∀ {y : SV} {fp : List Addr}, OwnS g F H v y fp → OwnS g F' H v y fp
  | .o y, fp, h => OwnO.same sm (y := y) h
  | .ins c ns xs, fp, h => by
    obtain ⟨a, dx, gs, fps, e1, e2, e3, r1, r2, r3, r4⟩ := h
    exact ⟨a, dx, gs, fps, e1, e2, e3, r1, r2, r3.same sm, r4⟩
theorem EnvF.frz (en : EnvF g B F H ρ σ fp) {fq : List Addr} (ap : Apart B F fp fq) : EnvF g B (frzF F H fq) H ρ σ fp where
  len := en.len
  sub := frzF_sub en.sub
  own := fun i s e => by
    obtain ⟨v, h1, h2⟩ := en.own i s e
    exact ⟨v, h1, h2.same (frzF_same ap.non)⟩
  there := en.there
  non := fun i a ha => by
    unfold frzF
    rw [if_neg (ap.dj i a ha)]
    exact en.non i a ha
  nd := en.nd
  dj := en.dj
  from_ := en.from_
  keep := fun a o h n => by
    obtain ⟨h1, h2⟩ := en.keep a o h n
    refine ⟨h1, ?_⟩
    have na : a ∉ fq := fun z => by
      rcases ap.from_ a z with q | q
      · exact n q
      · rw [h] at q; cases q
    unfold frzF
    rw [if_neg na]
    exact h2
  slots := en.slots
  kn := fun a u e => frzF_same ap.non a u (en.kn a u e)
/-- a slot is forgotten -/
theorem EnvF.drop (en : EnvF g B F H ρ σ fp) (i : Nat) : EnvF g B F H (ρ.set i none) σ (fun j => if j = i then [] else fp j) ∧ Apart B F (fun j => if j = i then [] else fp j) (fp i) := by
  refine ⟨⟨by rw [List.length_set]; exact en.len, en.sub, fun j t e => ?_, fun j a ha => ?_, fun j a ha => ?_, fun j => ?_, fun j k hjk a ha hb => ?_, fun j a ha => ?_, en.keep, en.slots, en.kn⟩, ⟨en.nd i, en.non i, fun j a ha hb => ?_, en.from_ i⟩⟩
  · by_cases hj : i = j
    · subst hj
      rw [List.getElem?_set] at e
      simp only [if_true] at e
      split at e <;> cases e
    · rw [List.getElem?_set_ne hj] at e
      rw [if_neg (Ne.symm hj)]
      exact en.own j t e
  · split at ha
    · cases ha
    · exact en.there j a ha
  · split at ha
    · cases ha
    · exact en.non j a ha
  · split
    · exact List.nodup_nil
    · exact en.nd j
  · split at ha
    · cases ha
    · split at hb
      · cases hb
      · exact en.dj j k hjk a ha hb
  · split at ha
    · cases ha
    · exact en.from_ j a ha
  · split at ha
    · cases ha
    · rename_i hj
      exact en.dj j i hj a ha hb
/-- a frozen value where it stands -/
theorem EnvF.refz {i : Nat} (en : EnvF g B F H (ρ.set i none) σ fp) {v : V} {d : D} (h : σ[i]? = some (some v)) (hp : fp i = []) (r : Rep g F v d) : EnvF g B F H (setE ρ i (fz d)) σ fp where
  len := by unfold setE; rw [List.length_set]; have := en.len; rw [List.length_set] at this; exact this
  sub := en.sub
  own := fun j t e => by
    unfold setE at e
    by_cases hj : i = j
    · subst hj
      rw [List.getElem?_set] at e
      simp only [if_true] at e
      split at e
      · cases Option.some.inj (Option.some.inj e)
        exact ⟨v, h, hp, r⟩
      · cases e
    · rw [List.getElem?_set_ne hj] at e
      exact en.own j t (by rw [List.getElem?_set_ne hj]; exact e)
  there := en.there
  non := en.non
  nd := en.nd
  dj := en.dj
  from_ := en.from_
  keep := en.keep
  slots := en.slots
  kn := en.kn
theorem getV_some {i : Nat} {s : SV} (h : getV ρ i = some s) : ρ[i]? = some (some s) := by
  unfold getV at h
  split at h
  · cases Option.some.inj h; assumption
  · cases h
theorem EnvR.freezeV (en : EnvR g B F H ρ σ) (i : Nat) : ∃ F', EnvR g B F' H (Pd.freezeV ρ i) σ := by
  obtain ⟨fp, en⟩ := en
  unfold Pd.freezeV
  cases q : getV ρ i with
  | none => exact ⟨F, fp, en⟩
  | some s =>
    obtain ⟨v, h1, h2⟩ := en.own i s (getV_some q)
    obtain ⟨e1, ap⟩ := en.drop i
    have e2 := e1.frz ap
    refine ⟨_, _, e2.refz h1 (by simp) (h2.frozen (frzF_same ap.non) fun a ha => by unfold frzF; rw [if_pos ha])⟩
theorem EnvR.freeze : ∀ (is : List Nat) {F : Hp} {ρ : Env}, EnvR g B F H ρ σ → ∃ F', EnvR g B F' H (Pd.freeze ρ is) σ
  | [], F, ρ, en => ⟨F, en⟩
  | i :: is, F, ρ, en => by
    obtain ⟨F1, en1⟩ := en.freezeV i
    exact EnvR.freeze is en1
end
end Pd

end
section
set_option linter.all false
set_option autoImplicit false
set_option Elab.async false
set_option maxRecDepth 100000
/-! Pd.Sts2: statements. -/
namespace Pd
open PySem PySem.Spec PyProof.Rows L2
structure OkS (X : Cx) : Prop where
  pass : PassesOwn (model X.prog X.w) X.A X.env X.xe
  stk : X.stack = X.env :: X.outer
  frm : X.env.frame = some X.env.locals
def PRs (g : G) (B : Bs) (W : WX) (D : Ends) : RS → Prop
  | .ok (.nx ρ) => ∀ F H σ, EnvR g B F H ρ σ → D.nx σ H
  | .ok (.bk ρ) => ∀ F H σ, EnvR g B F H ρ σ → D.bk σ H
  | .ok (.ct ρ) => ∀ F H σ, EnvR g B F H ρ σ → D.ct σ H
  | .ok (.rt s ρ) => ∀ F H σ fp v fq, EnvF g B F H ρ σ fp → OwnS g F H v s fq → Apart B F fp fq → D.rt v H
  | .exc c ρ => ∀ F H σ, EnvR g B F H ρ σ → W (.ref (g.xA c)) none σ H
  | .bad => False
def WS (X : Cx) (st : Stmt) : TS := fun D σ H => ∀ pins s, Inv X pins σ H s → wpAny (model X.prog X.w) X.A (exec st X.env) (SP X pins D) X.xe s
theorem ps_ws {X : Cx} {st : Stmt} : PS X st (WS X st) := ⟨fun pins s σ H D I h => h pins s I⟩
theorem ws_of {X : Cx} {st : Stmt} {t : TS} {D : Ends} {σ : L2.St} {H : Hp} (h : PS X st t) (q : t D σ H) : WS X st D σ H := fun pins s I => h.run pins s σ H D I q
def WSs (X : Cx) (st : List Stmt) : TS := fun D σ H => ∀ pins s, Inv X pins σ H s → wpAny (model X.prog X.w) X.A (execs st X.env) (SP X pins D) X.xe s
theorem pss_wss {X : Cx} {st : List Stmt} : PSs X st (WSs X st) := ⟨fun pins s σ H D I h => h pins s I⟩
theorem wss_of {X : Cx} {st : List Stmt} {t : TS} {D : Ends} {σ : L2.St} {H : Hp} (h : PSs X st t) (q : t D σ H) : WSs X st D σ H := fun pins s I => h.run pins s σ H D I q
/-- io: the slots that stay -/
def SS (c : Cc) (io : List Nat) (st : Stmt) (s : S) : Prop := ∀ W X, Okx c W X → OkS X → ∀ B F H ρ σ D, B.io = io → EnvR c.g B F H ρ σ → PRs c.g B W D (ex c.Φ s ρ) → WS X st D σ H
def SSs (c : Cc) (io : List Nat) (st : List Stmt) (s : List S) : Prop := ∀ W X, Okx c W X → OkS X → ∀ B F H ρ σ D, B.io = io → EnvR c.g B F H ρ σ → PRs c.g B W D (exs c.Φ s ρ) → WSs X st D σ H
section
variable {c : Cc} {io : List Nat} {W : WX} {X : Cx} {a b : Expr} {as rest : List Expr} {e f : E} {es : List E} {pos : Pos} {B : Bs} {F H : Hp} {σ : L2.St} {ρ : Env} {D : Ends} {st : Stmt} {sts : List Stmt} {s : S} {ss : List S}
theorem PRs.toX {α : Type} {r : R α} {k : α → RS} (en : EnvR c.g B F H ρ σ) (pr : PRs c.g B W D (RS.of ρ r k)) : PRx c.g W σ (fun _ _ a => PRs c.g B W D (k a)) F H r := by
  cases r with
  | ok a => exact pr
  | exc ci => exact fun F' H' x => pr F' H' σ (en.grow x)
  | bad => exact pr
theorem SE.goS {P : Hp → Hp → SV → Prop} {Q : VK} (h : SE c a e) (ok : Okx c W X) (sb : Sub F H) (en : EnvE c.g F H ρ σ) (pr : PRx c.g W σ P F H (ev c.Φ e ρ))
    (k : ∀ s v F' H' fp, Grow F H F' H' → OwnS c.g F' H' v s fp → (fresh e = true → ∀ a ∈ fp, H a = none) → (∀ a ∈ fp, F' a = none) → fp.Nodup → P F H s → Q v H') : WE X a σ H Q := by
  refine h W X ok F H ρ σ Q sb en ?_
  cases q : ev c.Φ e ρ with
  | ok s =>
    rw [q] at pr
    intro v F' H' fp x o n f nd
    exact k s v F' H' fp x o n f nd pr
  | exc c' => rw [q] at pr; exact pr
  | bad => rw [q] at pr; exact pr.elim
/-- evaluated, then a statement goes on -/
theorem SE.goD {k : SV → RS} {Q : VK} (h : SE c a e) (ok : Okx c W X) (en : EnvR c.g B F H ρ σ) (pr : PRs c.g B W D (RS.of ρ (ev c.Φ e ρ) k))
    (q : ∀ s v F' H' fq, Grow F H F' H' → OwnS c.g F' H' v s fq → (fresh e = true → ∀ a ∈ fq, H a = none) → (∀ a ∈ fq, F' a = none) → fq.Nodup → PRs c.g B W D (k s) → Q v H') : WE X a σ H Q :=
  h.goS ok en.sub en.env (PRs.toX en pr) q
theorem PRs.of {α : Type} {o : Option α} {k : α → RS} (pr : PRs c.g B W D (RS.of ρ (R.of o) k)) : ∃ a, o = some a ∧ PRs c.g B W D (k a) := by
  cases o with
  | none => exact pr.elim
  | some a => exact ⟨a, rfl, pr⟩
theorem ST.goD {k : Bool → RS} {Q : Bool → Hp → Prop} (h : ST c a e) (ok : Okx c W X) (en : EnvR c.g B F H ρ σ) (pr : PRs c.g B W D (RS.of ρ (evB c.Φ e ρ) k))
    (q : ∀ b F' H', Grow F H F' H' → PRs c.g B W D (k b) → Q b H') : WT X a σ H Q := by
  refine h W X ok F H ρ σ Q en.sub en.env ?_
  have pr := PRs.toX en pr
  cases q2 : evB c.Φ e ρ with
  | ok s =>
    rw [q2] at pr
    exact fun F' H' x => q s F' H' x pr
  | exc c' => rw [q2] at pr; exact pr
  | bad => rw [q2] at pr; exact pr.elim
/-- kept as one's own -/
theorem keep_own {s k : SV} {v : V} {F' H' : Hp} {fq : List Addr} {fp : Nat → List Addr} (en : EnvF c.g B F H ρ σ fp) (x : Grow F H F' H') (o : OwnS c.g F' H' v s fq) (n : fresh e = true → ∀ a ∈ fq, H a = none) (f : ∀ a ∈ fq, F' a = none) (nd : fq.Nodup) (h : keepS e s = some k) : k = s ∧ Apart B F' fp fq := by
  unfold keepS at h
  split at h
  · cases Option.some.inj h
    have e0 : fq = [] := o.1
    subst e0
    exact ⟨rfl, .nil⟩
  · split at h
    · rename_i fe
      cases Option.some.inj h
      exact ⟨rfl, en.apart nd f (n fe)⟩
    · cases h
/-! ### small ones -/
theorem ss_pas : SS c io (.Pass pos) .pas := fun W X ok os B F H ρ σ D hio en pr => ws_of ps_pass (pr F H σ en)
theorem ss_brk : SS c io (.Break pos) .brk := fun W X ok os B F H ρ σ D hio en pr => ws_of ps_break (pr F H σ en)
theorem ss_cnt : SS c io (.Continue pos) .cnt := fun W X ok os B F H ρ σ D hio en pr => ws_of ps_continue (pr F H σ en)
theorem ss_retn : SS c io (.Return none pos) .retn := fun W X ok os B F H ρ σ D hio en pr => ws_of ps_retN (by
  obtain ⟨fp, en⟩ := en
  exact pr F H σ fp .non [] en ⟨rfl, .non⟩ .nil)
theorem ss_ex (h : SE c a e) (hn : ∀ env l, swapsWith a none l env = pure false) : SS c io (.Expr a pos) (.ex e) := fun W X ok os B F H ρ σ D hio en pr => by
  refine ws_of (ps_expr pe_we (hn _ _)) ?_
  exact h.goD ok en pr fun s v F' H' fq x o n f nd pr => pr F' H' σ (en.grow x)
theorem sss_nil : SSs c io [] [] := fun W X ok os B F H ρ σ D hio en pr => wss_of pss_nil (pr F H σ en)
theorem sss_frz {is : List Nat} (h : SSs c io sts ss) : SSs c io sts (.frz is :: ss) := fun W X ok os B F H ρ σ D hio en pr => by
  obtain ⟨F', en'⟩ := en.freeze is
  exact h W X ok os B F' H _ σ D hio en' pr
theorem sss_cons (h1 : SS c io st s) (h2 : SSs c io sts ss) : SSs c io (st :: sts) (s :: ss) := fun W X ok os B F H ρ σ D hio en pr => by
  refine wss_of (pss_cons ps_ws pss_wss) ?_
  refine h1 W X ok os B F H ρ σ _ hio en ?_
  have pr : PRs c.g B W D (RS.seq (ex c.Φ s ρ) fun ρ' => exs c.Φ ss ρ') := pr
  cases q : ex c.Φ s ρ with
  | ok fl =>
    rw [q] at pr
    cases fl with
    | nx ρ' => exact fun F' H' σ' en' => h2 W X ok os B F' H' ρ' σ' D hio en' pr
    | bk ρ' => exact pr
    | ct ρ' => exact pr
    | rt s ρ' => exact pr
  | exc ci ρ' => rw [q] at pr; exact pr
  | bad => rw [q] at pr; exact pr
theorem ss_if {p q : List Stmt} {sp sq : List S} (h1 : ST c a e) (h2 : SSs c io p sp) (h3 : SSs c io q sq) : SS c io (.If a p q pos) (.if_ e sp sq) := fun W X ok os B F H ρ σ D hio en pr => by
  refine ws_of (ps_if pt_wt pss_wss pss_wss) ?_
  refine h1.goD ok en pr fun b F' H' x pr => ?_
  cases b with
  | true => rw [if_pos rfl]; exact h2 W X ok os B F' H' ρ σ D hio (en.grow x) pr
  | false => rw [if_neg (by decide)]; exact h3 W X ok os B F' H' ρ σ D hio (en.grow x) pr
/-! ### return -/
theorem ss_ret (h : SE c a e) : SS c io (.Return (some a) pos) (.ret e) := fun W X ok os B F H ρ σ D hio en pr => by
  refine ws_of (ps_ret pe_we) ?_
  refine h.goD ok en pr fun s v F' H' fq x o n f nd pr => ?_
  obtain ⟨k, ek, pr2⟩ := PRs.of pr
  obtain ⟨fp, en⟩ := en
  obtain ⟨rfl, ap⟩ := keep_own en x o n f nd ek
  exact pr2 F' H' σ fp v fq (en.grow x) o ap
theorem ss_retv {i : Nat} {x : Str} {p : Pos} (hi : c.N[i]? = some x) (hv : Vis c.sc x) (hd : (x == ("__debug__" : Str)) = false) (hcd : (x == ("__classdict__" : Str)) = false) : SS c io (.Return (some (.Name x p)) pos) (.retv i) := fun W X ok os B F H ρ σ D hio en pr => by
  refine ws_of (ps_ret (pe_var (i := i) (by rw [ok.N]; exact hi) (by rw [ok.sc]; exact hv) hd hcd)) ?_
  obtain ⟨fp, en⟩ := en
  unfold ex at pr
  split at pr
  · rename_i s es
    obtain ⟨v, h1, h2⟩ := en.own i s (getV_some es)
    obtain ⟨e1, ap⟩ := en.drop i
    exact ⟨v, h1, pr F H σ _ v (fp i) e1 h2 ap⟩
  · exact pr.elim
/-! ### assignment -/
theorem ss_asg_nm {i : Nat} {x : Str} {p : Pos} (hi : c.N[i]? = some x) (hl : locB c x) (hio : i ∉ io) (h : SE c a e) (hs : ∀ env l, env.scope = c.sc → swapsWith a (some (.Name x p)) l env = pure false) : SS c io (.Assign [.Name x p] a pos) (.asg (.nm i) e) := fun W X ok os B F H ρ σ D hb en pr => by
  refine ws_of (ps_set ok.ndX (by rw [ok.N]; exact hi) (by rw [ok.sc]; exact hl.1) pe_we (hs _ _ ok.sc) (by
    rcases hl.2 with z | z
    · exact .inl (ok.fn x z)
    · exact .inr (by rw [ok.sc]; exact z))) ?_
  refine h.goD ok en pr fun s v F' H' fq x o n f nd pr => ?_
  obtain ⟨k, ek, pr2⟩ := PRs.of pr
  obtain ⟨fp, en⟩ := en
  obtain ⟨rfl, ap⟩ := keep_own en x o n f nd ek
  unfold asgT at pr2
  exact pr2 F' H' _ ⟨_, (en.grow x).set o ap (by rw [hb]; exact hio)⟩
end
end Pd

end
section
set_option linter.all false
set_option autoImplicit false
set_option Elab.async false
set_option maxRecDepth 100000
/-! Pd.Sts3: more assignments. -/
namespace Pd
open PySem PySem.Spec PyProof.Rows L2
section
variable {c : Cc} {io : List Nat} {W : WX} {X : Cx} {a b : Expr} {as rest : List Expr} {e f : E} {es : List E} {pos : Pos} {B : Bs} {F H : Hp} {σ : L2.St} {ρ : Env} {D : Ends} {st : Stmt} {sts : List Stmt} {s : S} {ss : List S}
theorem ss_asg_lc {i : Nat} {x : Str} {p cpos : Pos} {elt : Expr} {tg iter : Expr} {ifs : List Expr} {scope : Scope} {ce : E} {ct : Tg} {ci : Pd.It} {cf : List E} {own : List (Str × Nat)} (hb : blkC c.N c.sc scope own = true) (hv : ∀ i ∈ tgv ct, i ∈ own.map (·.2)) (hi : okH iter = true) (h1 : SI c tg iter ci) (h2 : SG (c.blk scope) tg ct) (h3 : STs (c.blk scope) ifs cf) (h4 : SE (c.blk scope) elt ce)
    (hx : c.N[i]? = some x) (hl : c.sc.names.lookup x = some .local) (hio : i ∉ io) (hk : c.sc.kind = .function) (hln : (p.line == cpos.line) = true) (ha : (scope.names.any fun (n, k) => n == x && (k == .local || k == .cell)) = false) :
    SS c io (.Assign [.Name x p] (.ListComp elt [⟨tg, iter, ifs, 0⟩] scope cpos) pos) (.asg (.nm i) (.comp ce ct ci cf (own.map (·.2)))) := fun W X ok os B F H ρ σ D hB en pr => by
  refine ws_of (ps_setLc (own := own) (g := fun v σ H Q => ∀ s0 H0 C cl fp, WG (X.blk s0 H0 scope (compEnvC scope cl C X.env) fp) tg v σ H Q) (tt := fun σ H Q => ∀ s0 H0 C cl fp, WTs (X.blk s0 H0 scope (compEnvC scope cl C X.env) fp) ifs σ H Q)
    (te := fun σ H Q => ∀ s0 H0 C cl fp, WE (X.blk s0 H0 scope (compEnvC scope cl C X.env) fp) elt σ H Q) ok.calm ok.ndX (by rw [ok.N]; exact hx) (by rw [ok.sc]; exact hl) (sw_true (by rw [ok.sc]; exact hk) (by rw [ok.sc]; exact hl) hln ha) pi_wi (blkOk_by (by rw [ok.N, ok.sc]; exact hb)) (fun s0 H0 C cl fp => ⟨fun pins s σ H v u Q I r h => pg_wg.run pins s σ H v u Q I r (h s0 H0 C cl fp)⟩)
    (fun s0 H0 C cl fp => ⟨fun pins s σ H Q I h => h s0 H0 C cl fp pins s I⟩) (fun s0 H0 C cl fp => ⟨fun pins s σ H Q I h => h s0 H0 C cl fp pins s I⟩) (okH_fold hi X.env)) ?_
  refine comp_tLc (fr := true) hb hv hi h1 h2 h3 h4 ok en.sub en.env ?_
  have pr0 := PRs.toX en pr
  cases q : ev c.Φ (.comp ce ct ci cf (own.map (·.2))) ρ with
  | ok s =>
    rw [q] at pr0
    intro v F' H' fq x o n f nd
    obtain ⟨k, ek, pr2⟩ := PRs.of pr0
    obtain ⟨fp, en⟩ := en
    obtain ⟨rfl, ap⟩ := keep_own en x o (fun _ => n rfl) f nd ek
    unfold asgT at pr2
    exact pr2 F' H' _ ⟨_, (en.grow x).set o ap (by rw [hB]; exact hio)⟩
  | exc ci => rw [q] at pr0; exact pr0
  | bad => rw [q] at pr0; exact pr0
/-! ### targets of any form -/
mutual
theorem asgT_noexc {Φ : Phi} {e : E} : ∀ (t : T) {s : SV} {ρ : Env} {k : Nat}, asgT Φ e t s ρ ≠ .exc k
  | .nm i, s, ρ, k => by unfold asgT; simp
  | .att i f, s, ρ, k => by unfold asgT; split <;> simp
  | .sub p x, s, ρ, k => by
    unfold asgT
    split
    · split
      · split <;> simp
      · simp
    · simp
  | .tu ts, s, ρ, k => by
    unfold asgT
    split
    · exact asgTs_noexc ts
    · simp
theorem asgTs_noexc {Φ : Phi} : ∀ (ts : List T) {ss : List SV} {ρ : Env} {k : Nat}, asgTs Φ ts ss ρ ≠ .exc k
  | [], [], ρ, k => by unfold asgTs; simp
  | [], _ :: _, ρ, k => by unfold asgTs; simp
  | _ :: _, [], ρ, k => by unfold asgTs; simp
  | t :: ts, s :: ss, ρ, k => by
    unfold asgTs
    split
    · exact asgTs_noexc ts
    · simp
end
def GT (c : Cc) (io : List Nat) (a : Expr) (t : T) (fe : E) : Prop := ∀ W X, Okx c W X → ∀ B F H ρ σ fp v k fq ρ' Q, B.io = io → EnvF c.g B F H ρ σ fp → OwnS c.g F H v k fq → Apart B F fp fq → asgT c.Φ fe t k ρ = .ok ρ' → (∀ F' H' σ', Same F F' → EnvR c.g B F' H' ρ' σ' → Q σ' H') → WG X a v σ H Q
def GTs (c : Cc) (io : List Nat) (as : List Expr) (ts : List T) : Prop := ∀ W X, Okx c W X → ∀ B F H ρ σ fp vs ks fqs ρ' Q, B.io = io → EnvF c.g B F H ρ σ fp → OwnSv c.g F H vs ks fqs → Apart B F fp fqs.flatten → asgTs c.Φ ts ks ρ = .ok ρ' → (∀ F' H' σ', Same F F' → EnvR c.g B F' H' ρ' σ' → Q σ' H') → WGs X as vs σ H Q
/-- kept values alone -/
def GTz (c : Cc) (io : List Nat) (as : List Expr) (ts : List T) : Prop := ∀ W X, Okx c W X → ∀ B F H ρ σ vs ds ρ' Q, B.io = io → EnvR c.g B F H ρ σ → Reps c.g F vs ds → asgTs c.Φ ts (ds.map fz) ρ = .ok ρ' → (∀ F' H' σ', Same F F' → EnvR c.g B F' H' ρ' σ' → Q σ' H') → WGs X as vs σ H Q
theorem gt_nm {i : Nat} {x : Str} (hi : c.N[i]? = some x) (hl : locB c x) (hio : i ∉ io) : GT c io (.Name x pos) (.nm i) e := fun W X ok B F H ρ σ fp v k fq ρ' Q hb en o ap h q => by
  refine wg_of (pg_name ok.ndX (by rw [ok.N]; exact hi) (by rw [ok.sc]; exact hl.1) (by
    rcases hl.2 with z | z
    · exact .inl (ok.fn x z)
    · exact .inr (by rw [ok.sc]; exact z))) ?_
  unfold asgT at h
  cases h
  exact q F H _ (fun _ _ z => z) ⟨_, en.set o ap (by rw [hb]; exact hio)⟩
theorem OwnSv.same {g : G} {F F' H : Hp} (sm : Same F F') : ∀ {vs : List V} {ss : List SV} {fqs : List (List Addr)}, OwnSv g F H vs ss fqs → OwnSv g F' H vs ss fqs
  | _, _, _, .nil => .nil
  | _, _, _, .cons h t => .cons (h.same sm) (t.same sm)
theorem asgTs_len {Φ : Phi} : ∀ {ts : List T} {ss : List SV} {ρ ρ' : Env}, asgTs Φ ts ss ρ = .ok ρ' → ss.length = ts.length
  | [], [], _, _, _ => rfl
  | [], _ :: _, _, _, h => by simp [asgTs] at h
  | _ :: _, [], _, _, h => by simp [asgTs] at h
  | t :: ts, d :: ds, ρ, ρ', h => by
    unfold asgTs at h
    split at h
    · rw [List.length_cons, List.length_cons, asgTs_len h]
    · cases h
theorem gts_nil : GTs c io [] [] := fun W X ok B F H ρ σ fp vs ks fqs ρ' Q hb en o ap h q => by
  cases ks with
  | nil =>
    cases o
    unfold asgTs at h
    cases h
    exact wgs_of pgs_nil ⟨rfl, q F H σ (fun _ _ z => z) ⟨fp, en⟩⟩
  | cons k ks => simp [asgTs] at h
theorem gtz_nil : GTz c io [] [] := fun W X ok B F H ρ σ vs ds ρ' Q hb en r h q => by
  cases ds with
  | nil =>
    cases r
    unfold asgTs at h
    cases h
    exact wgs_of pgs_nil ⟨rfl, q F H σ (fun _ _ z => z) en⟩
  | cons k ks => simp [asgTs] at h
theorem gtz_cons {t : T} {ts : List T} (h1 : GT c io a t (.lit .non)) (ha : okG a = true) (h2 : GTz c io as ts) : GTz c io (a :: as) (t :: ts) := fun W X ok B F H ρ σ vs ds ρ' Q hb en r h q => by
  cases r with
  | nil => simp [asgTs] at h
  | @cons v vs d ds r1 r2 =>
    rw [List.map_cons] at h
    unfold asgTs at h
    split at h
    · rename_i ρ1 e1
      obtain ⟨fp, en⟩ := en
      refine wgs_of (pgs_cons pg_wg pgs_wgs (by rw [okG_cons ha]; rfl)) ⟨_, _, rfl, ?_⟩
      refine h1 W X ok B F H ρ σ fp v (fz d) [] ρ1 _ hb en ⟨rfl, r1⟩ .nil e1 fun F1 H1 σ1 sm en1 => ?_
      exact h2 W X ok B F1 H1 ρ1 σ1 vs ds ρ' Q hb en1 (Reps.mono sm ds r2) h fun F2 H2 σ2 sm2 en2 => q F2 H2 σ2 (fun a u z => sm2 a u (sm a u z)) en2
    · cases h
/-- several, from a kept tuple -/
theorem gt_tu {k : Nat} {ts : List T} (h : GTz c io as ts) (hs : ∀ a ∈ as, okG a = true) (hl : ts.length = as.length) : GT c io (.Tuple as k pos) (.tu ts) e := fun W X ok B F H ρ σ fp v kv fq ρ' Q hb en o ap ha q => by
  obtain ⟨h1, h2⟩ := assignEach_len X.env as hs
  refine wg_of (pg_tup ok.calm pgs_wgs h1 h2) ?_
  unfold asgT at ha
  split at ha
  · rename_i xs
    have r := own_fz o
    cases r with
    | tup r1 r2 r3 =>
      refine ⟨_, _, rfl, by rw [ok.K]; exact en.sub.sqT (g := c.g) r1, ?_, h W X ok B F H ρ σ _ xs ρ' Q hb ⟨fp, en⟩ r3 ha q⟩
      have := asgTs_len ha
      rw [List.length_map] at this
      rw [r3.length, this, hl]
  · cases ha
theorem EnvF.setA {g : G} {fp : Nat → List Addr} (en : EnvF g B F H ρ σ fp) {i : Nat} {v : V} {s : SV} {fq fr : List Addr} (o : OwnS g F H v s fq) (ap : Apart B F fp (fq ++ fr)) (hi : i ∉ B.io) : EnvF g B F H (setE ρ i s) (σ.set i (some v)) (fun j => if j = i then fq else fp j) ∧ Apart B F (fun j => if j = i then fq else fp j) fr := by
  obtain ⟨n1, n2, n3⟩ := List.nodup_append.mp ap.nd
  refine ⟨en.set o ⟨n1, fun a ha => ap.non a (List.mem_append_left _ ha), fun j a ha hb => ap.dj j a ha (List.mem_append_left _ hb), fun a ha => ap.from_ a (List.mem_append_left _ ha)⟩ hi, n2, fun a ha => ap.non a (List.mem_append_right _ ha), fun j a ha hb => ?_, fun a ha => ap.from_ a (List.mem_append_right _ ha)⟩
  split at ha
  · exact n3 a ha a hb rfl
  · exact ap.dj j a ha (List.mem_append_right _ hb)
/-- a name among several -/
theorem gts_nm {i : Nat} {x : Str} {p : Pos} {ts : List T} (hi : c.N[i]? = some x) (hl : locB c x) (hio : i ∉ io) (h2 : GTs c io as ts) : GTs c io (.Name x p :: as) (.nm i :: ts) := fun W X ok B F H ρ σ fp vs ks fqs ρ' Q hb en o ap h q => by
  cases o with
  | nil => simp [asgTs] at h
  | @cons v k fq vs ks fqs o1 o2 =>
    unfold asgTs at h
    have e1 : asgT c.Φ (.lit .non) (.nm i) k ρ = .ok (setE ρ i k) := by unfold asgT; rfl
    rw [e1] at h
    have pg : PG X (.Name x p) (gName i) := pg_name ok.ndX (by rw [ok.N]; exact hi) (by rw [ok.sc]; exact hl.1) (by
      rcases hl.2 with z | z
      · exact .inl (ok.fn x z)
      · exact .inr (by rw [ok.sc]; exact z))
    refine wgs_of (pgs_cons pg pgs_wgs rfl) ⟨_, _, rfl, ?_⟩
    obtain ⟨en1, ap1⟩ := en.setA o1 (by simpa using ap) (by rw [hb]; exact hio)
    exact h2 W X ok B F H _ _ _ vs ks fqs ρ' Q hb en1 o2 ap1 h q
/-- any target -/
theorem ss_asg {t : T} (h : SE c a e) (hg : GT c io b t e) (hb : okG b = true) (hs : ∀ env l, swapsWithSole [b] a l env = pure false) (hw : ∀ env, swappedStores [b] a env = pure none) : SS c io (.Assign [b] a pos) (.asg t e) := fun W X ok os B F H ρ σ D hB en pr => by
  refine ws_of (ps_asg pe_we pg_wg (hs _ _) (hw _) (by rw [okG_cons hb]; rfl)) ?_
  refine h.goD ok en pr fun s v F' H' fq x o n f nd pr => ?_
  obtain ⟨k, ek, pr2⟩ := PRs.of pr
  obtain ⟨fp, en⟩ := en
  obtain ⟨rfl, ap⟩ := keep_own en x o n f nd ek
  have en' := en.grow x
  cases q : asgT c.Φ e t k ρ with
  | ok ρ' =>
    rw [q] at pr2
    exact hg W X ok B F' H' ρ σ fp v k fq ρ' _ hB en' o ap q fun F2 H2 σ2 _ en2 => pr2 F2 H2 σ2 en2
  | exc ci => exact absurd q (asgT_noexc t)
  | bad => rw [q] at pr2; exact pr2.elim
end
end Pd

end
section
set_option linter.all false
set_option autoImplicit false
set_option Elab.async false
set_option maxRecDepth 100000
/-! Pd.Sts4: paths, what is written in place. -/
namespace Pd
open PySem PySem.Spec PyProof.Rows L2
section
variable {g : G} {F F' H H' : Hp}
theorem OwnO.stay (sm : Same F F') {v : V} : ∀ {y : OV} {fp : List Addr}, OwnO g F H v y fp → (∀ a ∈ fp, H' a = H a) → OwnO g F' H' v y fp
  | .fz d, fp, h, _ => ⟨h.1, Rep.mono sm d h.2⟩
  | .lst xs, fp, h, k => by
    obtain ⟨a, vs, e1, e2, e3, z, r⟩ := h
    exact ⟨a, vs, e1, e2, (k a (by rw [e2]; simp)).trans e3, z, Reps.mono sm xs r⟩
  | .dct ks ds, fp, h, k => by
    obtain ⟨a, es, e1, e2, e3, z, r1, r2, r3⟩ := h
    exact ⟨a, es, e1, e2, (k a (by rw [e2]; simp)).trans e3, z, Reps.mono sm ks r1, Reps.mono sm ds r2, r3⟩
  | .dcl ks dss, fp, h, k => by
    obtain ⟨a, es, as, e1, e2, e3, z, r1, r2, r3, r4⟩ := h
    refine ⟨a, es, as, e1, e2, (k a (by rw [e2]; simp)).trans e3, z, Reps.mono sm ks r1, r2, ?_, r4⟩
    have k' : ∀ b ∈ as, H' b = H b := fun b hb => k b (by rw [e2]; exact List.mem_cons_of_mem _ hb)
    clear r2 e2 k
    induction r3 with
    | nil => exact .nil
    | cons q t ih =>
      obtain ⟨vs, q1, q2, q3⟩ := q
      exact .cons ⟨vs, (k' _ List.mem_cons_self).trans q1, q2, Reps.mono sm _ q3⟩ (ih fun b hb => k' b (List.mem_cons_of_mem _ hb))
theorem OwnOs.stay (sm : Same F F') : ∀ {vs : List V} {ys : List OV} {fps : List (List Addr)}, OwnOs g F H vs ys fps → (∀ a ∈ fps.flatten, H' a = H a) → OwnOs g F' H' vs ys fps
  | _, _, _, .nil, _ => .nil
  | _, _, _, .cons h t, k => .cons (h.stay sm fun a ha => k a (by rw [List.flatten_cons]; exact List.mem_append_left _ ha)) (t.stay sm fun a ha => k a (by rw [List.flatten_cons]; exact List.mem_append_right _ ha))
theorem OwnS.stay (sm : Same F F') {v : V} : ∀ {y : SV} {fp : List Addr}, OwnS g F H v y fp → (∀ a ∈ fp, H' a = H a) → OwnS g F' H' v y fp
  | .o y, fp, h, k => OwnO.stay sm (y := y) h k
  | .ins c ns xs, fp, h, k => by
    obtain ⟨a, dx, gs, fps, e1, e2, e3, r1, r2, r3, r4⟩ := h
    subst e2
    exact ⟨a, dx, gs, fps, e1, rfl, (k a List.mem_cons_self).trans e3, r1, r2, r3.stay sm fun b hb => k b (List.mem_cons_of_mem _ hb), r4⟩
/-- a field's own value, and what takes its place -/
theorem owns_upd {f : Nat} (inj : ∀ j, g.p.fld f = g.p.fld j → f = j) : ∀ {gs : List (Str × V)} {ns : List Nat} {xs : List OV} {fps : List (List Addr)} {x : OV}, gs.map (·.1) = ns.map g.p.fld → OwnOs g F H (gs.map (·.2)) xs fps → lookF f ns xs = some x →
    ∃ v fq l1 l2, fps = l1 ++ fq :: l2 ∧ gs.lookup (g.p.fld f) = some v ∧ OwnO g F H v x fq ∧ ∀ F' H' x' fq', Same F F' → (∀ a ∈ l1.flatten ++ l2.flatten, H' a = H a) → OwnO g F' H' v x' fq' → OwnOs g F' H' (gs.map (·.2)) (setF f x' ns xs) (l1 ++ fq' :: l2)
  | [], [], _, _, _, _, _, e => by simp [lookF] at e
  | _ :: _, [], _, _, _, h, _, _ => by simp at h
  | [], _ :: _, _, _, _, h, _, _ => by simp at h
  | (y, v) :: gs, n :: ns, xs, fps, x, h, r, e => by
    simp only [List.map_cons, List.cons.injEq] at h
    cases r with
    | @cons _ _ x0 xs fp0 fps r1 r2 =>
      unfold lookF at e
      split at e
      · rename_i c
        subst c
        cases Option.some.inj e
        refine ⟨v, fp0, [], fps, rfl, by rw [List.lookup_cons, h.1]; simp, r1, fun F' H' x' fq' sm k o => ?_⟩
        unfold setF
        rw [if_pos rfl]
        exact .cons o (r2.stay sm fun a ha => k a (by simpa using ha))
      · rename_i c
        obtain ⟨w, fq, l1, l2, e1, e2, e3, e4⟩ := owns_upd inj h.2 r2 e
        refine ⟨w, fq, fp0 :: l1, l2, by rw [e1]; rfl, ?_, e3, fun F' H' x' fq' sm k o => ?_⟩
        · rw [List.lookup_cons, h.1]
          have : (g.p.fld f == g.p.fld n) = false := beq_eq_false_iff_ne.mpr fun z => c (inj _ z).symm
          rw [this]
          exact e2
        · unfold setF
          rw [if_neg c]
          refine .cons (r1.stay sm fun a ha => k a (by simp [ha])) (e4 F' H' x' fq' sm (fun a ha => k a (by rw [List.flatten_cons, List.append_assoc]; exact List.mem_append_right _ ha)) o)
end
/-- the slot of a path -/
def Pth.ix : Pth → Nat
  | .v i => i
  | .a i _ => i
/-- what is changed in place -/
structure Chg (g : G) (F H F' H' : Hp) (v : V) (x' : OV) (fq fq' : List Addr) : Prop where
  sub : Sub F' H'
  same : Same F F'
  keep : ∀ a o, H a = some o → a ∉ fq → H' a = some o ∧ F' a = F a
  own : OwnO g F' H' v x' fq'
  nd : fq'.Nodup
  non : ∀ a ∈ fq', F' a = none
  from_ : ∀ a ∈ fq', a ∈ fq ∨ H a = none
section
variable {c : Cc} {io : List Nat} {W : WX} {X : Cx} {a b : Expr} {as rest : List Expr} {e f : E} {es : List E} {pos : Pos} {B : Bs} {F H : Hp} {σ : L2.St} {ρ : Env} {st : Stmt} {sts : List Stmt} {s : S} {ss : List S}
theorem EnvF.gone {g : G} {fp : Nat → List Addr} (en : EnvF g B F H ρ σ fp) {a : Addr} (z : H a = none) : (∀ j, a ∉ fp j) ∧ (a ∈ B.io0 ∨ B.H0 a = none) := by
  refine ⟨fun j ha => ?_, ?_⟩
  · obtain ⟨ob, ho⟩ := en.there j a ha
    rw [z] at ho; cases ho
  · cases q : B.H0 a with
    | none => exact .inr rfl
    | some ob =>
      by_cases hi : a ∈ B.io0
      · exact .inl hi
      · have := (en.keep a ob q hi).1
        rw [z] at this; cases this
/-- the value at a slot is changed in place -/
theorem EnvF.chg {g : G} {fp : Nat → List Addr} (en : EnvF g B F H ρ σ fp) {i : Nat} {s' : SV} {v : V} {F' H' : Hp} {fq fr' : List Addr} (hs : σ[i]? = some (some v)) (hl : i < ρ.length) (hq : ∀ a ∈ fq, a ∈ fp i) (sub : Sub F' H') (sm : Same F F') (keep : ∀ a o, H a = some o → a ∉ fq → H' a = some o ∧ F' a = F a)
    (o : OwnS g F' H' v s' fr') (nd : fr'.Nodup) (non : ∀ a ∈ fr', F' a = none) (from_ : ∀ a ∈ fr', a ∈ fp i ∨ ((∀ j, a ∉ fp j) ∧ (a ∈ B.io0 ∨ B.H0 a = none))) : EnvF g B F' H' (setE ρ i s') σ (fun j => if j = i then fr' else fp j) := by
  have stay : ∀ j, j ≠ i → ∀ a ∈ fp j, H' a = H a ∧ F' a = F a := fun j hj a ha => by
    obtain ⟨ob, ho⟩ := en.there j a ha
    have na : a ∉ fq := fun z => en.dj j i hj a ha (hq a z)
    obtain ⟨h1, h2⟩ := keep a ob ho na
    exact ⟨h1.trans ho.symm, h2⟩
  refine ⟨by unfold setE; rw [List.length_set]; exact en.len, sub, fun j t e => ?_, fun j a ha => ?_, fun j a ha => ?_, fun j => ?_, fun j k hjk a ha hb => ?_, fun j a ha => ?_, fun a ob h n => ?_, en.slots, fun a u e => sm a u (en.kn a u e)⟩
  · unfold setE at e
    by_cases hj : i = j
    · subst hj
      rw [List.getElem?_set_self hl] at e
      simp only [if_true]
      cases Option.some.inj (Option.some.inj e)
      exact ⟨v, hs, o⟩
    · rw [List.getElem?_set_ne hj] at e
      obtain ⟨w, h1, h2⟩ := en.own j t e
      rw [if_neg (Ne.symm hj)]
      exact ⟨w, h1, h2.stay sm fun a ha => (stay j (Ne.symm hj) a ha).1⟩
  · split at ha
    · obtain ⟨ob, h1, _⟩ := o.fp_some a ha
      exact ⟨ob, h1⟩
    · rename_i hj
      obtain ⟨ob, ho⟩ := en.there j a ha
      exact ⟨ob, (stay j hj a ha).1.trans ho⟩
  · split at ha
    · exact non a ha
    · rename_i hj
      rw [(stay j hj a ha).2]
      exact en.non j a ha
  · split
    · exact nd
    · exact en.nd j
  · have key : ∀ m, m ≠ i → ∀ a ∈ fp m, a ∉ fr' := fun m hm a ha hb => by
      rcases from_ a hb with z | z
      · exact en.dj m i hm a ha z
      · exact z.1 m ha
    split at ha
    · split at hb
      · omega
      · rename_i hk
        exact key k hk a hb ha
    · rename_i hj
      split at hb
      · exact key j hj a ha hb
      · exact en.dj j k hjk a ha hb
  · split at ha
    · rcases from_ a ha with z | z
      · exact en.from_ i a z
      · exact z.2
    · exact en.from_ j a ha
  · obtain ⟨h1, h2⟩ := en.keep a ob h n
    have na : a ∉ fq := fun z => by
      rcases en.from_ i a (hq a z) with q | q
      · exact n q
      · rw [h] at q; cases q
    obtain ⟨k1, k2⟩ := keep a ob h1 na
    exact ⟨k1, k2.trans h2⟩
/-- the expression of a path -/
inductive PthA (c : Cc) : Pth → Expr → Prop
  | v {i : Nat} {x : Str} {p : Pos} : c.N[i]? = some x → Vis c.sc x → (x == ("__debug__" : Str)) = false → (x == ("__classdict__" : Str)) = false → PthA c (.v i) (.Name x p)
  | a {i f : Nat} {x : Str} {p q : Pos} : c.N[i]? = some x → Vis c.sc x → (x == ("__debug__" : Str)) = false → (x == ("__classdict__" : Str)) = false → f < c.g.p.flds.length → PthA c (.a i f) (.Attribute (.Name x p) (c.g.p.fld f) q)
theorem PthA.okH {p : Pth} {pa : Expr} (h : PthA c p pa) : okH pa = true := by cases h <;> rfl
theorem setE_len {ρ : Env} {i : Nat} {x : SV} (h : ρ[i]? = some (some x)) : i < ρ.length := (List.getElem?_eq_some_iff.mp h).1
/-- a path is read: its value, and how it is changed -/
theorem path_read {p : Pth} {pa : Expr} {fp : Nat → List Addr} {x : OV} {Q : VK} (hp : PthA c p pa) (ok : Okx c W X) (en : EnvF c.g B F H ρ σ fp) (hx : getP p ρ = some x)
    (q : ∀ v fq, OwnO c.g F H v x fq → (∀ a ∈ fq, F a = none) → fq.Nodup → (∀ F1 H1, Grow F H F1 H1 → ∀ F' H' x' fq', Chg c.g F1 H1 F' H' v x' fq fq' → EnvR c.g B F' H' (setP p x' ρ) σ) → Q v H) : WE X pa σ H Q := by
  cases hp with
  | @v i y p h1 h2 h3 h4 =>
    refine we_of (pe_var (i := i) (by rw [ok.N]; exact h1) (by rw [ok.sc]; exact h2) h3 h4) ?_
    unfold getP at hx
    dsimp only at hx
    split at hx
    · rename_i x0 ex
      cases Option.some.inj hx
      obtain ⟨v, k1, k2⟩ := en.own i _ (getV_some ex)
      refine ⟨v, k1, q v (fp i) k2 (en.non i) (en.nd i) fun F1 H1 gr F' H' x' fq' ch => ?_⟩
      have en1 := en.grow gr
      exact ⟨_, en1.chg (s' := .o x') (fr' := fq') k1 (setE_len (getV_some ex)) (fun a ha => ha) ch.sub ch.same ch.keep ch.own ch.nd ch.non fun a ha => (ch.from_ a ha).imp (fun z => z) en1.gone⟩
    · cases hx
  | @a i f y p q0 h1 h2 h3 h4 h5 =>
    refine we_of (pe_fld (pe_var (i := i) (by rw [ok.N]; exact h1) (by rw [ok.sc]; exact h2) h3 h4) (okH_base rfl _ _ _)) ?_
    unfold getP at hx
    dsimp only at hx
    split at hx
    · rename_i ci ns fs ex
      obtain ⟨v, k1, k2⟩ := en.own i _ (getV_some ex)
      obtain ⟨p0, dx, gs, fps, e1, e2, e3, r1, r2, r3, r4⟩ := id k2
      obtain ⟨w, fq, l1, l2, u1, u2, u3, u4⟩ := owns_upd (fld_inj ok.lib h5) r1 r3 hx
      have cl := ok.lib.cls ci r4
      have ndi := en.nd i
      rw [e2, u1] at ndi
      have ndi' : (p0 :: (l1.flatten ++ (fq ++ l2.flatten))).Nodup := by simpa [List.flatten_append, List.flatten_cons] using ndi
      have memi : ∀ a ∈ fq, a ∈ fp i := fun a ha => by rw [e2, u1]; simp [ha]
      have mem1 : ∀ a ∈ l1.flatten, a ∈ fp i := fun a ha => by rw [e2, u1]; simp only [List.flatten_append, List.flatten_cons, List.mem_cons, List.mem_append]; exact .inr (.inl ha)
      have mem2 : ∀ a ∈ l2.flatten, a ∈ fp i := fun a ha => by rw [e2, u1]; simp only [List.flatten_append, List.flatten_cons, List.mem_cons, List.mem_append]; exact .inr (.inr (.inr ha))
      have mem0 : p0 ∈ fp i := by rw [e2]; exact List.mem_cons_self
      obtain ⟨n0, n1⟩ := List.nodup_cons.mp ndi'
      obtain ⟨n2, n3, n4⟩ := List.nodup_append.mp n1
      obtain ⟨n5, n6, n7⟩ := List.nodup_append.mp n3
      refine ⟨v, k1, p0, _, dx, gs, w, e1, e3, by rw [ok.K]; exact cl.1, by rw [ok.K]; exact cl.2 f h5, u2, q w fq u3 (fun a ha => en.non i a (memi a ha)) n5 fun F1 H1 gr F' H' x' fq' ch => ?_⟩
      have en1 := en.grow gr
      have sm1 := gr.same en.sub
      have hold : ∀ a ∈ fp i, a ∉ fq → H' a = H a ∧ F' a = F1 a := fun a ha na => by
        obtain ⟨ob, ho⟩ := en.there i a ha
        obtain ⟨h1, h2⟩ := ch.keep a ob (gr.keep a ob ho).1 na
        exact ⟨h1.trans ho.symm, h2⟩
      have hne1 : ∀ a ∈ l1.flatten, a ∉ fq := fun a ha hb => n4 a ha a (List.mem_append_left _ hb) rfl
      have hne2 : ∀ a ∈ l2.flatten, a ∉ fq := fun a ha hb => n7 a hb a ha rfl
      have hne0 : p0 ∉ fq := fun hb => n0 (List.mem_append_right _ (List.mem_append_left _ hb))
      have os := u4 F' H' x' fq' (fun a u hu => ch.same a u (sm1 a u hu)) (fun a ha => by
        rcases List.mem_append.mp ha with z | z
        · exact (hold a (mem1 a z) (hne1 a z)).1
        · exact (hold a (mem2 a z) (hne2 a z)).1) ch.own
      have hfr : ∀ a ∈ fq', a ∉ l1.flatten ∧ a ∉ l2.flatten ∧ a ≠ p0 := fun a ha => by
        rcases ch.from_ a ha with z | z
        · exact ⟨fun y => hne1 a y z, fun y => hne2 a y z, fun y => hne0 (by rw [← y]; exact z)⟩
        · have gone : ∀ a' ∈ fp i, a' ≠ a := fun a' h' y => by
            obtain ⟨ob, ho⟩ := en1.there i a' h'
            rw [y, z] at ho; cases ho
          exact ⟨fun y => gone a (mem1 a y) rfl, fun y => gone a (mem2 a y) rfl, fun y => gone p0 mem0 y.symm⟩
      have hset : setP (.a i f) x' ρ = setE ρ i (.ins ci ns (setF f x' ns fs)) := by
        unfold setP
        dsimp only
        rw [ex]
      rw [hset]
      refine ⟨_, en1.chg (s' := .ins ci ns (setF f x' ns fs)) (fq := fq) (fr' := p0 :: (l1 ++ fq' :: l2).flatten) k1 (setE_len (getV_some ex)) memi ch.sub ch.same ch.keep ⟨p0, dx, gs, _, e1, rfl, (hold p0 mem0 hne0).1.trans e3, r1, r2, os, r4⟩ ?_ ?_ ?_⟩
      · simp only [List.flatten_append, List.flatten_cons]
        refine List.nodup_cons.mpr ⟨fun z => ?_, List.nodup_append.mpr ⟨n2, List.nodup_append.mpr ⟨ch.nd, n6, fun x hx y hy z => (hfr x hx).2.1 (by rw [z]; exact hy)⟩, fun x hx y hy z => ?_⟩⟩
        · rcases List.mem_append.mp z with z | z
          · exact n0 (List.mem_append_left _ z)
          · rcases List.mem_append.mp z with z | z
            · exact (hfr p0 z).2.2 rfl
            · exact n0 (List.mem_append_right _ (List.mem_append_right _ z))
        · rcases List.mem_append.mp hy with y1 | y1
          · exact (hfr y y1).1 (by rw [← z]; exact hx)
          · exact n4 x hx y (List.mem_append_right _ y1) z
      · intro a' ha'
        simp only [List.flatten_append, List.flatten_cons, List.mem_cons, List.mem_append] at ha'
        rcases ha' with rfl | z | z | z
        · rw [(hold _ mem0 hne0).2]; exact en1.non i _ mem0
        · rw [(hold _ (mem1 a' z) (hne1 a' z)).2]; exact en1.non i _ (mem1 a' z)
        · exact ch.non a' z
        · rw [(hold _ (mem2 a' z) (hne2 a' z)).2]; exact en1.non i _ (mem2 a' z)
      · intro a' ha'
        simp only [List.flatten_append, List.flatten_cons, List.mem_cons, List.mem_append] at ha'
        rcases ha' with rfl | z | z | z
        · exact .inl mem0
        · exact .inl (mem1 a' z)
        · rcases ch.from_ a' z with y | y
          · exact .inl (memi a' y)
          · exact .inr (en1.gone y)
        · exact .inl (mem2 a' z)
    · cases hx
end
end Pd

end
section
set_option linter.all false
set_option autoImplicit false
set_option Elab.async false
set_option maxRecDepth 100000
/-! Pd.Sts5: append, extend, stores. -/
namespace Pd
open PySem PySem.Spec PyProof.Rows L2
section
variable {c : Cc} {io : List Nat} {W : WX} {X : Cx} {a b : Expr} {as rest : List Expr} {e f : E} {es : List E} {pos : Pos} {B : Bs} {F H : Hp} {σ : L2.St} {ρ : Env} {st : Stmt} {sts : List Stmt} {s : S} {ss : List S} {p : Pth} {pa : Expr}
theorem reps_snoc {g : G} {F : Hp} {vs : List V} {xs : List D} {v : V} {d : D} (r : Reps g F vs xs) (h : Rep g F v d) : Reps g F (vs ++ [v]) (xs ++ [d]) := r.append (.cons h .nil)
/-- the list at l is rewritten -/
theorem chg_lst {g : G} {F H : Hp} {l : Addr} {vs ws : List V} {ys : List D} (sb : Sub F H) (hF : F l = none) (r : Reps g F ws ys) (hz : ws.length ≤ sizeLine) : Chg g F H F (upd H l (.lst ws)) (.ref l) (.lst ys) [l] [l] where
  sub := fun a u e => by
    have na : a ≠ l := fun z => by rw [z, hF] at e; cases e
    rw [upd_ne na]
    exact sb a u e
  same := fun a u e => e
  keep := fun a o h n => ⟨by rw [upd_ne (fun z => n (by rw [z]; simp))]; exact h, rfl⟩
  own := ⟨l, ws, rfl, rfl, upd_same, hz, r⟩
  nd := by simp
  non := fun a ha => by cases List.mem_singleton.mp ha; exact hF
  from_ := fun a ha => .inl ha
theorem ss_app {apos cpos : Pos} (hp : PthA c p pa) (h : SE c a e) (ha : okH a = true) (hl : (apos.endLine == cpos.line) = true) (hn : True) : SS c io (.Expr (.Call (.Attribute pa "append" apos) [a] [] cpos) pos) (.app p e) := fun W X ok os B F H ρ σ D hb en pr => by
  have hs := okH_star ha [] X.env
  have hf : ((backTo cpos (starEach [a] X.env)).all (fun x => !x.1) && (backToKw cpos (keywordEach [] X.env)).all (fun x => x.1.isSome)
      && decide (([a] : List Expr).length + ([] : List Keyword).length + (if ([] : List Keyword).isEmpty then 0 else 1) < 30)) = true := by rw [hs]; rfl
  refine ws_of (ps_expr (pe_bm PySem.F.plainAttrs_list PySem.F.slot_list_append PySem.F.type_list_append mt_append pe_we (pa_cons pe_we pa_nil hs) (okH_base hp.okH _ _ _) hf hl hs rfl) rfl) ?_
  unfold ex at pr
  split at pr
  · rename_i xs ex
    obtain ⟨fp, en⟩ := en
    refine path_read hp ok en ex fun v fq o nf nd up => ?_
    obtain ⟨l, vs, rfl, rfl, hH, hz, r⟩ := o
    refine ⟨.inl ⟨rfl, vs, .inl (.inl hH)⟩, ?_⟩
    refine SE.goD h ok ⟨fp, en⟩ pr fun s v F' H' fq x o n f nd pr => ?_
    obtain ⟨d, ed, pr2⟩ := PRs.of pr
    obtain ⟨F2, x2, rd⟩ := keep_fr en.sub x o n f ed
    split at pr2
    · rename_i hlt
      have hlt2 : vs.length < sizeLine := by rw [r.length, ← lim_eq]; exact hlt
      obtain ⟨k1, k2⟩ := x2.keep l _ hH
      refine ⟨l, vs, v, rfl, rfl, k1, hlt2, pr2 F2 _ σ (up F2 H' x2 F2 _ _ _ (chg_lst (vs := vs) x2.sub (by rw [k2]; exact nf l (by simp)) (reps_snoc (Reps.mono (x2.same en.sub) xs r) rd) (by rw [List.length_append]; simp; omega)))⟩
    · exact pr2.elim
  · exact pr.elim
theorem ss_ext {apos cpos : Pos} (hp : PthA c p pa) (h : SE c a e) (ha : okH a = true) (hl : (apos.endLine == cpos.line) = true) : SS c io (.Expr (.Call (.Attribute pa "extend" apos) [a] [] cpos) pos) (.ext p e) := fun W X ok os B F H ρ σ D hb en pr => by
  have hs := okH_star ha [] X.env
  have hf : ((backTo cpos (starEach [a] X.env)).all (fun x => !x.1) && (backToKw cpos (keywordEach [] X.env)).all (fun x => x.1.isSome)
      && decide (([a] : List Expr).length + ([] : List Keyword).length + (if ([] : List Keyword).isEmpty then 0 else 1) < 30)) = true := by rw [hs]; rfl
  refine ws_of (ps_expr (pe_bm PySem.F.plainAttrs_list PySem.F.slot_list_extend PySem.F.type_list_extend mt_extend pe_we (pa_cons pe_we pa_nil hs) (okH_base hp.okH _ _ _) hf hl hs rfl) rfl) ?_
  unfold ex at pr
  split at pr
  · rename_i xs ex
    obtain ⟨fp, en⟩ := en
    refine path_read hp ok en ex fun v fq o nf nd up => ?_
    obtain ⟨l, vs, rfl, rfl, hH, hz, r⟩ := o
    refine ⟨.inl ⟨rfl, vs, .inl (.inl hH)⟩, ?_⟩
    refine SE.goD h ok ⟨fp, en⟩ pr fun s v F' H' fq x o n f nd pr => ?_
    obtain ⟨ys, ey, pr2⟩ := PRs.of pr
    obtain ⟨b, ws, rfl, hb2, hz2, rw2⟩ := own_list x.sub ey o
    split at pr2
    · rename_i hlt
      have hlt2 : vs.length + ws.length ≤ sizeLine := by rw [r.length, rw2.length, ← lim_eq]; exact hlt
      obtain ⟨k1, k2⟩ := x.keep l _ hH
      refine ⟨l, b, vs, ws, rfl, rfl, k1, hb2, hlt2, pr2 F' _ σ (up F' H' x F' _ _ _ (chg_lst (vs := vs) x.sub (by rw [k2]; exact nf l (by simp)) ((Reps.mono (x.same en.sub) xs r).append rw2) (by rw [List.length_append]; exact hlt2)))⟩
    · exact pr2.elim
  · exact pr.elim
end
end Pd

end
section
set_option linter.all false
set_option autoImplicit false
set_option Elab.async false
set_option maxRecDepth 100000
/-! Pd.Sts6: stores into containers and fields. -/
namespace Pd
open PySem PySem.Spec PyProof.Rows L2
def WSet (X : Cx) : TSet := fun o i v H Q => ∀ pins s σ ov iv u, Inv X pins σ H s → RelV o ov → RelV i iv → RelV v u → wpAny (model X.prog X.w) X.A (setItem ov iv u) (fun _ s' => ∃ H', Inv X pins σ H' s' ∧ Q H') X.xe s
theorem pset_w {X : Cx} : PSet X (WSet X) := fun pins s σ H o i v ov iv u Q I r1 r2 r3 h => h pins s σ ov iv u I r1 r2 r3
theorem wset_of {X : Cx} {t : TSet} (h : PSet X t) {o i v : V} {H : Hp} {Q : Hp → Prop} (q : t o i v H Q) : WSet X o i v H Q := fun pins s σ ov iv u I r1 r2 r3 => h pins s σ H o i v ov iv u Q I r1 r2 r3 q
theorem sub_assign {o i : Expr} {pos : Pos} (hi : okH i = true) (env : PySem.Env) : ∀ v, assign (.Subscript o i pos) env v = (do
      let ov ← holding [v] (eval o env)
      let iv ← holding [v, ov] (eval i env)
      standAt pos
      holding [v, ov, iv] (setItem ov iv v)
      release [v, ov, iv] []) := by
  intro v
  cases i <;> first | rfl | (simp [okH] at hi; done)
section
variable {c : Cc} {io : List Nat} {W : WX} {X : Cx} {a b : Expr} {as rest : List Expr} {e f : E} {es : List E} {pos : Pos} {B : Bs} {F H : Hp} {σ : L2.St} {ρ : Env} {st : Stmt} {sts : List Stmt} {s : S} {ss : List S} {p : Pth} {pa : Expr}
theorem chg_dct {g : G} {F H : Hp} {l : Addr} {es es' : List Ent} {ks : List D} {vs : List D} (sb : Sub F H) (hF : F l = none) (d : DF g F es' ks) (r : Reps g F (es'.map (·.2.2)) vs) (hz : es'.length ≤ sizeLine) : Chg g F H F (upd H l (dictHO l es')) (.ref l) (.dct ks vs) [l] [l] where
  sub := fun a u e => by
    have na : a ≠ l := fun z => by rw [z, hF] at e; cases e
    rw [upd_ne na]
    exact sb a u e
  same := fun a u e => e
  keep := fun a o h n => ⟨by rw [upd_ne (fun z => n (by rw [z]; simp))]; exact h, rfl⟩
  own := ⟨l, es', rfl, rfl, upd_same, hz, d.keys, r, d.hash, d.all, d.nd⟩
  nd := by simp
  non := fun a ha => by cases List.mem_singleton.mp ha; exact hF
  from_ := fun a ha => .inl ha
/-- o[k] = v at a path, both kept -/
theorem put_path {kd d : D} {ρ' : Env} {fp : Nat → List Addr} {kv wv : V} {F2 H' : Hp} {v0 : V} {fq : List Addr} {x : OV} {Q : Hp → Prop} (ok : Okx c W X) (en : EnvF c.g B F H ρ σ fp) (hx : getP p ρ = some x) (o : OwnO c.g F H v0 x fq) (nf : ∀ a ∈ fq, F a = none)
    (up : ∀ F1 H1, Grow F H F1 H1 → ∀ F' H' x' fq', Chg c.g F1 H1 F' H' v0 x' fq fq' → EnvR c.g B F' H' (setP p x' ρ) σ) (x2 : Grow F H F2 H') (rk : Rep c.g F2 kv kd) (rd : Rep c.g F2 wv d) (h : putP p kd d ρ = some ρ') (q : ∀ F' H', Same F F' → EnvR c.g B F' H' ρ' σ → Q H') : WSet X v0 kv wv H' Q := by
  unfold putP at h
  rw [hx] at h
  split at h
  · rename_i xs e0
    cases Option.some.inj e0
    obtain ⟨l, vs, rfl, rfl, hH, hz, r⟩ := o
    obtain ⟨k1, k2⟩ := x2.keep l _ hH
    split at h
    · rename_i i
      cases rk
      have go : ∀ j, ixN vs.length i = some j → ρ' = setP p (.lst (xs.set j d)) ρ → WSet X (.ref l) (.int i) wv H' Q := fun j hj hρ =>
        wset_of set_list ⟨l, vs, i, j, rfl, rfl, k1, hj, q F2 _ (x2.same en.sub) (by
          rw [hρ]
          exact up F2 H' x2 F2 _ _ _ (chg_lst (vs := vs) x2.sub (by rw [k2]; exact nf l (by simp)) ((Reps.mono (x2.same en.sub) xs r).set j rd) (by rw [List.length_set]; exact hz)))⟩
      split at h
      · rename_i h0
        split at h
        · rename_i h1
          exact go i.toNat (by unfold ixN; rw [if_pos h0, r.length, if_pos h1]) (Option.some.inj h).symm
        · cases h
      · rename_i h0
        split at h
        · rename_i h1
          exact go (i + xs.length).toNat (by unfold ixN; rw [if_neg h0, r.length, if_pos h1]) (Option.some.inj h).symm
        · cases h
    · cases h
  · rename_i ks vs e0
    cases Option.some.inj e0
    split at h
    · rename_i cc
      obtain ⟨c1, c2⟩ := Bool.and_eq_true_iff.mp cc
      have c2 := of_decide_eq_true c2
      obtain ⟨l, es, rfl, rfl, hH, df, rv, hz⟩ := DF.of_own o
      obtain ⟨k1, k2⟩ := x2.keep l _ hH
      have sm := x2.same en.sub
      have df2 : DF c.g F2 es ks := ⟨Reps.mono sm ks df.keys, df.hash, df.all, df.nd⟩
      have rv2 := Reps.mono sm vs rv
      have hu := ok.std.un
      intro pins s σ' ov iv u I r1 r2 r3
      cases r1
      refine e_setItem ok.std (by omega) I x2.sub k1 df2 c1 rk r2 r3 c2 fun s' I' => ⟨_, I', q F2 _ sm ?_⟩
      cases Option.some.inj h
      refine up F2 H' x2 F2 _ _ _ (chg_dct (es := es) x2.sub (by rw [k2]; exact nf l (by simp)) ⟨putEn_keys rk df2.keys, putEn_hash rfl df2.hash, putKs_all c1, putKs_nodup c1 df2.nd⟩ ?_ (putEn_len _ _ _ _ (by rw [df.len]; exact c2)))
      rw [putEn_val]
      exact putVs_reps rd rv2
    · cases h
  · cases h
theorem gt_sub {k : E} (hp : PthA c p pa) (h2 : SE c b k) (hb : okH b = true) : GT c io (.Subscript pa b pos) (.sub p k) e := fun W X ok B F H ρ σ fp v kv fq ρ' Q hB en o ap h q => by
  refine wg_of (pg_sub pe_we pe_we pset_w (sub_assign hb X.env)) ?_
  unfold asgT at h
  split at h
  · rename_i kk ek
    split at h
    · rename_i kd ekd
      split at h
      · rename_i ρ1 ep
        cases h
        have en1 := en.frz ap
        have rv : Rep c.g (frzF F H fq) v kv.view := o.frozen (frzF_same ap.non) fun a ha => by unfold frzF; rw [if_pos ha]
        obtain ⟨x, hx⟩ : ∃ x, getP p ρ = some x := by
          cases hx : getP p ρ with
          | none => unfold putP at ep; rw [hx] at ep; cases ep
          | some x => exact ⟨x, rfl⟩
        refine path_read hp ok en1 hx fun v0 fq0 o0 nf nd up => ?_
        refine h2 W X ok (frzF F H fq) H ρ σ _ en1.sub en1.env ?_
        rw [ek]
        intro vk F' H' fq1 x1 o1 n1 f1 nd1
        obtain ⟨F2, x2, rk⟩ := keep_fr en1.sub x1 o1 n1 f1 ekd
        exact put_path (Q := fun H'' => Q σ H'') ok en1 hx o0 nf up x2 rk (Rep.mono (x2.same en1.sub) _ rv) ep fun F3 H3 sm3 en3 => q F3 H3 σ (fun a u z => sm3 a u (frzF_same ap.non a u z)) en3
      · cases h
    · cases h
  · cases h
end
end Pd

end
section
set_option linter.all false
set_option autoImplicit false
set_option Elab.async false
set_option maxRecDepth 100000
/-! Pd.Sts7: several at once, fields. -/
namespace Pd
open PySem PySem.Spec PyProof.Rows L2
abbrev PK (g : G) (Qs : List V → Hp → Prop) : Hp → Hp → List SV → Prop := fun F H ks => ∀ vs F' H' fqs, Grow F H F' H' → OwnSv g F' H' vs ks fqs → fqs.flatten.Nodup → (∀ a ∈ fqs.flatten, F' a = none) → (∀ a ∈ fqs.flatten, H a = none) → Qs vs H'
theorem PK.mono {g : G} {Qs : List V → Hp → Prop} : Mono (PK g Qs) := fun _ _ _ _ _ x h vs F' H' fqs y o nd f n => h vs F' H' fqs (x.trans y) o nd f fun a ha => x.none (n a ha)
def SK (c : Cc) (as : List Expr) (es : List E) : Prop := ∀ W X, Okx c W X → ∀ F H ρ σ Qs, Sub F H → EnvE c.g F H ρ σ → PRx c.g W σ (PK c.g Qs) F H (evk c.Φ es ρ) → WA X as σ H Qs
section
variable {c : Cc} {io : List Nat} {W : WX} {X : Cx} {a b : Expr} {as rest : List Expr} {e f : E} {es : List E} {pos : Pos} {B : Bs} {F H : Hp} {σ : L2.St} {ρ : Env} {st : Stmt} {sts : List Stmt} {s : S} {ss : List S} {p : Pth} {pa : Expr}
theorem OwnSv.grow {g : G} {F H F' H' : Hp} (sb : Sub F H) (x : Grow F H F' H') : ∀ {vs : List V} {ss : List SV} {fqs : List (List Addr)}, OwnSv g F H vs ss fqs → OwnSv g F' H' vs ss fqs
  | _, _, _, .nil => .nil
  | _, _, _, .cons h t => .cons (h.grow sb x) (t.grow sb x)
theorem sk_nil : SK c [] [] := fun W X ok F H ρ σ Qs sb en pr => wa_of pa_nil (show Qs [] H from by
  unfold evk at pr
  exact pr [] F H [] (Grow.refl sb) .nil List.nodup_nil (fun a ha => (by cases ha)) (fun a ha => (by cases ha)))
theorem sk_cons (h1 : SE c a e) (ha : okH a = true) (h2 : SK c as es) : SK c (a :: as) (e :: es) := fun W X ok F H ρ σ Qs sb en pr => by
  refine wa_of (pa_cons pe_we pa_wa (okH_star ha _ _)) ?_
  unfold evk at pr
  refine h1.go ok sb en pr fun s v F' H' fq x o n fn nd pr => ?_
  obtain ⟨k, ek, pr2⟩ := PRx.of pr
  have kk : k = s ∧ (∀ a ∈ fq, H a = none) := by
    unfold keepS at ek
    split at ek
    · cases Option.some.inj ek
      refine ⟨rfl, fun a ha => ?_⟩
      rw [show fq = [] from o.1] at ha
      cases ha
    · split at ek
      · rename_i fe
        exact ⟨(Option.some.inj ek).symm, n fe⟩
      · cases ek
  obtain ⟨rfl, fr⟩ := kk
  refine h2 W X ok F' H' ρ σ _ x.sub (en.grow sb x) ?_
  have pr3 := PRx.grow PK.mono x pr2
  cases q : evk c.Φ es ρ with
  | ok ds =>
    rw [q] at pr2
    intro vs F3 H3 fqs y os nd2 f2 n2
    have o3 := o.grow x.sub y
    refine pr2 (v :: vs) F3 H3 (fq :: fqs) (x.trans y) (.cons o3 os) ?_ ?_ ?_
    · rw [List.flatten_cons]
      refine List.nodup_append.mpr ⟨nd, nd2, fun a1 h1 a2 h2 z => ?_⟩
      obtain ⟨ob, ho, _⟩ := o.fp_some a1 h1
      rw [z, n2 a2 h2] at ho
      cases ho
    · intro a ha
      rw [List.flatten_cons] at ha
      rcases List.mem_append.mp ha with z | z
      · obtain ⟨ob, ho, _⟩ := o.fp_some a z
        rw [(y.keep a ob ho).2]
        exact fn a z
      · exact f2 a z
    · intro a ha
      rw [List.flatten_cons] at ha
      rcases List.mem_append.mp ha with z | z
      · exact fr a z
      · exact x.none (n2 a z)
  | exc c' => rw [q] at pr3; exact pr3
  | bad => rw [q] at pr3; exact pr3.elim
/-- names set one after the other -/
inductive Nms (c : Cc) (io : List Nat) : List Expr → List Nat → Prop
  | nil : Nms c io [] []
  | cons {x : Str} {p : Pos} {i : Nat} {as : List Expr} {is : List Nat} : c.N[i]? = some x → locB c x → i ∉ io → Nms c io as is → Nms c io (.Name x p :: as) (i :: is)
def setVs : L2.St → List Nat → List V → L2.St
  | σ, i :: is, v :: vs => setVs (σ.set i (some v)) is vs
  | σ, _, _ => σ
theorem EnvF.setsA {g : G} : ∀ (is : List Nat) (vs : List V) (ks : List SV) (fqs : List (List Addr)) (ρ : Env) (σ : L2.St) (fp : Nat → List Addr), EnvF g B F H ρ σ fp → OwnSv g F H vs ks fqs → Apart B F fp fqs.flatten → (∀ i ∈ is, i ∉ B.io) → is.length = ks.length → EnvR g B F H (setEs ρ is ks) (setVs σ is vs)
  | [], _, _, _, ρ, σ, fp, en, .nil, _, _, _ => ⟨fp, en⟩
  | [], _, _, _, _, _, _, _, .cons _ _, _, _, h => by simp at h
  | _ :: _, _, _, _, _, _, _, _, .nil, _, _, h => by simp at h
  | i :: is, v :: vs, k :: ks, fq :: fqs, ρ, σ, fp, en, .cons o os, ap, hi, hl => by
    obtain ⟨en1, ap1⟩ := en.setA o (by simpa using ap) (hi i List.mem_cons_self)
    exact EnvF.setsA is vs ks fqs _ _ _ en1 os ap1 (fun j hj => hi j (List.mem_cons_of_mem _ hj)) (by simpa using hl)
theorem EnvF.sets {g : G} {is : List Nat} {vs : List V} {ks : List SV} {fqs : List (List Addr)} {ρ : Env} {σ : L2.St} {fp : Nat → List Addr} (en : EnvF g B F H ρ σ fp) (o : OwnSv g F H vs ks fqs) (ap : Apart B F fp fqs.flatten) (hi : ∀ i ∈ is, i ∉ B.io) (hl : is.length = ks.length) : EnvR g B F H (setEs ρ is ks) (setVs σ is vs) := EnvF.setsA is vs ks fqs ρ σ fp en o ap hi hl
theorem nms_wgs {fp : Nat → List Addr} {Q : L2.St → Hp → Prop} (ok : Okx c W X) : ∀ {as : List Expr} {is : List Nat} {vs : List V} {σ : L2.St}, Nms c io as is → vs.length = is.length → Q (setVs σ is vs) H → WGs X as vs σ H Q
  | _, _, [], σ, .nil, _, q => wgs_of pgs_nil ⟨rfl, q⟩
  | _, _, _ :: _, _, .nil, h, _ => by simp at h
  | _, _, [], _, .cons _ _ _ _, h, _ => by simp at h
  | _, _, v :: vs, σ, .cons (x := x) (p := p) (i := i) h1 h2 h3 t, hl, q => by
    have pg : PG X (.Name x p) (gName i) := pg_name ok.ndX (by rw [ok.N]; exact h1) (by rw [ok.sc]; exact h2.1) (by
      rcases h2.2 with z | z
      · exact .inl (ok.fn x z)
      · exact .inr (by rw [ok.sc]; exact z))
    exact wgs_of (pgs_cons pg pgs_wgs rfl) ⟨v, vs, rfl, nms_wgs (fp := fp) ok t (by simpa using hl) q⟩
theorem OwnSv.len {g : G} {F H : Hp} : ∀ {vs : List V} {ks : List SV} {fqs : List (List Addr)}, OwnSv g F H vs ks fqs → vs.length = ks.length
  | _, _, _, .nil => rfl
  | _, _, _, .cons _ t => congrArg (· + 1) t.len
theorem nms_io {as : List Expr} {is : List Nat} (h : Nms c io as is) : (∀ i ∈ is, i ∉ io) ∧ (∀ a ∈ as, okG a = true) ∧ is.length = as.length := by
  induction h with
  | nil => exact ⟨fun i h => (by cases h), fun a h => (by cases h), rfl⟩
  | cons h1 h2 h3 t ih => exact ⟨fun i h => (by rcases List.mem_cons.mp h with rfl | h; exact h3; exact ih.1 i h), fun a h => (by rcases List.mem_cons.mp h with rfl | h; rfl; exact ih.2.1 a h), by simp [ih.2.2]⟩
/-- what evk gives, then names -/
theorem SK.goD {is : List Nat} {Qs : List V → Hp → Prop} {D : Ends} (h : SK c as es) (ok : Okx c W X) (en : EnvR c.g B F H ρ σ) (pr : PRs c.g B W D (ex c.Φ (.par is es) ρ)) (hi : ∀ i ∈ is, i ∉ B.io)
    (q : ∀ vs F' H', Grow F H F' H' → vs.length = is.length → (∀ H2, (∀ p, H' p = none → ∀ o, H2 = upd H' p o → D.nx (setVs σ is vs) H2) ∧ D.nx (setVs σ is vs) H') → Qs vs H') : WA X as σ H Qs := by
  unfold ex at pr
  have pr0 := PRs.toX en pr
  refine h W X ok F H ρ σ Qs en.sub en.env ?_
  cases q0 : evk c.Φ es ρ with
  | ok ks =>
    rw [q0] at pr0
    intro vs F' H' fqs x os nd f n
    have pr0 : PRs c.g B W D (if is.length = ks.length then .ok (.nx (setEs ρ is ks)) else .bad) := pr0
    split at pr0
    · rename_i hl
      obtain ⟨fp, en⟩ := en
      have en1 := en.grow x
      have ap := en.apart nd f n
      refine q vs F' H' x (by rw [os.len, hl]) fun H2 => ⟨fun p hp o e => ?_, pr0 F' H' _ (en1.sets os ap hi hl)⟩
      have g2 : Grow F' H' F' (upd H' p o) := Grow.own x.sub hp
      rw [e]
      refine pr0 F' _ _ ((en1.grow g2).sets (os.grow x.sub g2) ap hi hl)
    · exact pr0.elim
  | exc c' => rw [q0] at pr0; exact pr0
  | bad => rw [q0] at pr0; exact pr0.elim
/-- through a tuple -/
theorem ss_par {k k2 : Nat} {tas : List Expr} {is : List Nat} {tp p2 : Pos} (h : SK c as es) (ht : Nms c io tas is) (hw : ∀ env : PySem.Env, env.scope = c.sc → swappedStores [.Tuple tas k tp] (.Tuple as k2 p2) env = pure none) (hz : tas.length ≤ 1000) : SS c io (.Assign [.Tuple tas k tp] (.Tuple as k2 p2) pos) (.par is es) := fun W X ok os B F H ρ σ D hB en pr => by
  obtain ⟨n1, n2, n3⟩ := nms_io ht
  obtain ⟨l1, l2⟩ := assignEach_len X.env tas n2
  refine ws_of (ps_asg (pe_tup pa_wa) (pg_tup ok.calm pgs_wgs l1 l2) rfl (hw _ ok.sc) rfl) ?_
  refine SK.goD h ok en pr (by rw [hB]; exact n1) fun vs F' H' x hl q => ?_
  refine ⟨by rw [hl, n3, ← lim_eq]; unfold lim; omega, fun p hp => ⟨p, vs, rfl, .inl (.inl upd_same), by rw [hl, n3], nms_wgs (fp := fun _ => []) ok ht hl ((q _).1 p hp _ rfl)⟩⟩
end
end Pd

end
section
set_option linter.all false
set_option autoImplicit false
set_option Elab.async false
set_option maxRecDepth 100000
/-! Pd.Sts8: pairs of names, fields. -/
namespace Pd
open PySem PySem.Spec PyProof.Rows L2
section
variable {c : Cc} {io : List Nat} {W : WX} {X : Cx} {a b d : Expr} {as rest : List Expr} {e f : E} {es : List E} {pos : Pos} {B : Bs} {F H : Hp} {σ : L2.St} {ρ : Env} {st : Stmt} {sts : List Stmt} {s : S} {ss : List S} {p : Pth} {pa : Expr}
theorem bk_of {env : PySem.Env} (hk : env.scope.kind = .function) : env.blockKind = .function := by
  unfold Env.blockKind
  rw [hk]
  rfl
def noStar : Expr → Bool
  | .Starred _ _ => false
  | _ => true
theorem star_any {as : List Expr} (h : ∀ a ∈ as, okH a = true) : (as.any fun | .Starred .. => true | _ => false) = false := by
  rw [List.any_eq_false]
  intro x hx
  have := h x hx
  cases x <;> first | (simp; done) | (simp [okH] at this; done)
/-- a local name on line l -/
def nmL (sc : Scope) (l : Nat) : Expr → Option Str
  | .Name x q => if sc.names.lookup x == some .local && q.line == l then some x else none
  | _ => none
theorem sw_eq {env : PySem.Env} {as bs : List Expr} {k k2 : Nat} {kp p2 : Pos} (hk : env.scope.kind = .function) (hs : ∀ z ∈ bs, okH z = true) (hl : bs.length = as.length) (h2 : as.length = 2 ∨ as.length = 3) {l : Nat} (h0 : (as.head?.map (·.pos.line)).getD 0 = l)
    {ns : List Str} (hn : as.filterMap (nmL env.scope l) = ns) : (ns.length ≠ as.length → swappedStores [.Tuple as k kp] (.Tuple bs k2 p2) env = pure none) ∧
    (ns.length = as.length → ns.eraseDups.length = ns.length → (bs.all (foldedForSure 8)) = false → (bs.all (constantsAlone 8)) = false → swappedStores [.Tuple as k kp] (.Tuple bs k2 p2) env = pure (some ns)) := by
  have hb := bk_of hk
  have e3 := star_any hs
  have g1 : (!(as.length == 2 || as.length == 3) || bs.length != as.length || env.blockKind != .function) = false := by
    rw [hb, hl]
    rcases h2 with z | z <;> rw [z] <;> rfl
  have e6 : (as.filterMap fun | .Name id pos => if env.kindOf id == some .local && pos.line == l then some id else none | _ => none) = ns := by
    rw [← hn]
    congr 1
  constructor
  · intro hne
    have g2 : (ns.length != as.length || ns.eraseDups.length != ns.length) = true := by simp [hne]
    unfold swappedStores
    dsimp only
    rw [g1]
    refine (if_neg Bool.false_ne_true).trans ?_
    refine (if_neg fun h => Bool.false_ne_true (e3.symm.trans h)).trans ?_
    rw [h0]
    exact if_pos ((congrArg (fun l' : List Str => (l'.length != as.length || l'.eraseDups.length != l'.length)) e6).trans g2)
  · intro he hd hf hc
    have g2 : (ns.length != as.length || ns.eraseDups.length != ns.length) = false := by simp [he, hd]
    unfold swappedStores
    dsimp only
    rw [g1]
    refine (if_neg Bool.false_ne_true).trans ?_
    refine (if_neg fun h => Bool.false_ne_true (e3.symm.trans h)).trans ?_
    rw [h0]
    refine (if_neg fun h => Bool.false_ne_true (g2.symm.trans ((congrArg (fun l' : List Str => (l'.length != as.length || l'.eraseDups.length != l'.length)) e6).symm.trans h))).trans ?_
    refine (if_neg (by rw [hf]; exact Bool.false_ne_true)).trans ?_
    refine (if_neg (by rw [hc]; exact Bool.false_ne_true)).trans ?_
    exact congrArg (fun l' => (pure (some l') : Sem (Option (List Str)))) e6

theorem len2 {vs : List V} (h : vs.length = 2) : ∃ v w, vs = [v, w] := by
  match vs, h with
  | [v, w], _ => exact ⟨v, w, rfl⟩
theorem len3 {vs : List V} (h : vs.length = 3) : ∃ u v w, vs = [u, v, w] := by
  match vs, h with
  | [u, v, w], _ => exact ⟨u, v, w, rfl⟩
/-- two plain local names -/
theorem ss_par2 {k k2 : Nat} {tp p2 px py : Pos} {x y : Str} {i j : Nat} (h : SK c [a, b] es) (hi : c.N[i]? = some x) (hj : c.N[j]? = some y) (hij : i ≠ j) (hx : c.sc.names.lookup x = some .local) (hy : c.sc.names.lookup y = some .local) (hio : i ∉ io ∧ j ∉ io)
    (hw : ∀ env : PySem.Env, env.scope = c.sc → swappedStores [.Tuple [.Name x px, .Name y py] k tp] (.Tuple [a, b] k2 p2) env = pure (some [x, y])) : SS c io (.Assign [.Tuple [.Name x px, .Name y py] k tp] (.Tuple [a, b] k2 p2) pos) (.par [i, j] es) := fun W X ok os B F H ρ σ D hB en pr => by
  refine ws_of (ps_par ok.calm ok.ndX (by rw [ok.N]; exact hi) (by rw [ok.N]; exact hj) hij (by rw [ok.sc]; exact hx) (by rw [ok.sc]; exact hy) pa_wa (hw _ ok.sc) rfl) ?_
  refine SK.goD h ok en pr (by rw [hB]; intro z hz; simp at hz; rcases hz with rfl | rfl; exact hio.1; exact hio.2) fun vs F' H' x hl q => ?_
  obtain ⟨v, w, rfl⟩ := len2 hl
  exact ⟨v, w, rfl, (q H').2⟩
theorem ss_par3 {k k2 : Nat} {tp p2 px py pz : Pos} {x y z : Str} {i j l : Nat} (h : SK c [a, b, d] es) (hi : c.N[i]? = some x) (hj : c.N[j]? = some y) (hl : c.N[l]? = some z) (hij : i ≠ j) (hil : i ≠ l) (hjl : j ≠ l) (hx : c.sc.names.lookup x = some .local) (hy : c.sc.names.lookup y = some .local) (hz : c.sc.names.lookup z = some .local) (hio : i ∉ io ∧ j ∉ io ∧ l ∉ io)
    (hw : ∀ env : PySem.Env, env.scope = c.sc → swappedStores [.Tuple [.Name x px, .Name y py, .Name z pz] k tp] (.Tuple [a, b, d] k2 p2) env = pure (some [x, y, z])) : SS c io (.Assign [.Tuple [.Name x px, .Name y py, .Name z pz] k tp] (.Tuple [a, b, d] k2 p2) pos) (.par [i, j, l] es) := fun W X ok os B F H ρ σ D hB en pr => by
  refine ws_of (L2.ps_par3 ok.calm ok.ndX (by rw [ok.N]; exact hi) (by rw [ok.N]; exact hj) (by rw [ok.N]; exact hl) hij hil hjl (by rw [ok.sc]; exact hx) (by rw [ok.sc]; exact hy) (by rw [ok.sc]; exact hz) pa_wa (hw _ ok.sc) rfl) ?_
  refine SK.goD h ok en pr (by rw [hB]; intro z hz; simp at hz; rcases hz with rfl | rfl | rfl; exact hio.1; exact hio.2.1; exact hio.2.2) fun vs F' H' x hl q => ?_
  obtain ⟨u, v, w, rfl⟩ := len3 hl
  exact ⟨u, v, w, rfl, (q H').2⟩
/-- kept values through a tuple -/
theorem ss_parz {k k2 : Nat} {tas : List Expr} {ts : List T} {tp p2 : Pos} (h : SA c as es) (ht : GTz c io tas ts) (hs : ∀ z ∈ tas, okG z = true) (hn : ts.length = tas.length) (hz : tas.length ≤ 1000) (hw : ∀ env : PySem.Env, env.scope = c.sc → swappedStores [.Tuple tas k tp] (.Tuple as k2 p2) env = pure none) : SS c io (.Assign [.Tuple tas k tp] (.Tuple as k2 p2) pos) (.parz ts es) := fun W X ok os B F H ρ σ D hB en pr => by
  obtain ⟨l1, l2⟩ := assignEach_len X.env tas hs
  refine ws_of (ps_asg (pe_tup pa_wa) (pg_tup ok.calm pgs_wgs l1 l2) rfl (hw _ ok.sc) rfl) ?_
  unfold ex at pr
  have pr0 := PRs.toX en pr
  refine h W X ok F H ρ σ _ en.sub en.env ?_
  cases q0 : evs c.Φ es ρ with
  | exc c' => rw [q0] at pr0; exact pr0
  | bad => rw [q0] at pr0; exact pr0.elim
  | ok ds =>
    rw [q0] at pr0
    intro vs F' H' x r
    have pr0 : PRs c.g B W D (RS.of ρ (asgTs c.Φ ts (ds.map fz) ρ) fun ρ' => .ok (.nx ρ')) := pr0
    cases q1 : asgTs c.Φ ts (ds.map fz) ρ with
    | exc c' => exact absurd q1 (asgTs_noexc ts)
    | bad => rw [q1] at pr0; exact pr0.elim
    | ok ρ' =>
      rw [q1] at pr0
      have hlen := asgTs_len q1
      rw [List.length_map] at hlen
      refine ⟨by rw [r.length, hlen, hn, ← lim_eq]; unfold lim; omega, fun p hp => ⟨p, vs, rfl, .inl (.inl upd_same), by rw [r.length, hlen, hn], ?_⟩⟩
      have g2 : Grow F' H' F' (upd H' p (.tup vs)) := Grow.own x.sub hp
      exact ht W X ok B F' _ ρ σ vs ds ρ' _ hB ((en.grow x).grow g2) r q1 fun F2 H2 σ2 _ en2 => pr0 F2 H2 σ2 en2
theorem sw_att (v o : Expr) (f : Str) (p : Pos) (l : Nat) (env : PySem.Env) : swapsWith v (some (.Attribute o f p)) l env = pure false := by
  cases v <;> rfl
theorem owns_snoc {g : G} {F H : Hp} {w : V} {x : OV} {fq : List Addr} : ∀ {vs : List V} {xs : List OV} {fps : List (List Addr)}, OwnOs g F H vs xs fps → OwnO g F H w x fq → OwnOs g F H (vs ++ [w]) (xs ++ [x]) (fps ++ [fq])
  | _, _, _, .nil, o => .cons o .nil
  | _, _, _, .cons h t, o => .cons h (owns_snoc t o)
theorem putF_new {f : Str} {v : V} : ∀ {gs : List (Str × V)}, (∀ x ∈ gs, x.1 ≠ f) → putF f v gs = gs ++ [(f, v)]
  | [], _ => rfl
  | (x, w) :: gs, h => by
    unfold putF
    rw [if_neg (h (x, w) List.mem_cons_self), putF_new fun y hy => h y (List.mem_cons_of_mem _ hy)]
    rfl
/-- self.f = value, f new -/
theorem ss_fld {i f : Nat} {x : Str} {xp ap : Pos} (hi : c.N[i]? = some x) (hv : Vis c.sc x) (hd : (x == ("__debug__" : Str)) = false) (hcd : (x == ("__classdict__" : Str)) = false) (hf : f < c.g.p.flds.length) (h : SE c a e) : SS c io (.Assign [.Attribute (.Name x xp) (c.g.p.fld f) ap] a pos) (.asg (.att i f) e) := fun W X ok os B F H ρ σ D hB en pr => by
  refine ws_of (ps_fld (pe_var (i := i) (by rw [ok.N]; exact hi) (by rw [ok.sc]; exact hv) hd hcd) pe_we (sw_att _ _ _ _ _ _)) ?_
  refine h.goD ok en pr fun s v F' H' fq x1 o n fn nd pr => ?_
  obtain ⟨k, ek, pr2⟩ := PRs.of pr
  obtain ⟨fp, en⟩ := en
  obtain ⟨rfl, ap⟩ := keep_own en x1 o n fn nd ek
  have en1 := en.grow x1
  unfold asgT at pr2
  split at pr2
  · rename_i ρ' eρ
    have pr2 : ∀ F H σ, EnvR c.g B F H ρ' σ → D.nx σ H := pr2
    unfold attP at eρ
    split at eρ
    · rename_i ci ns fs eg
      dsimp only at eρ
      split at eρ
      · rename_i cc
        obtain ⟨c1, c2⟩ := Bool.and_eq_true_iff.mp cc
        have c1 := of_decide_eq_true c1
        have c2 : f ∉ ns := by simpa using c2
        obtain ⟨v0, k1, k2⟩ := en1.own i _ (getV_some eg)
        obtain ⟨p0, dx, gs, fps, e1, e2, e3, r1, r2, r3, r4⟩ := id k2
        have cl := ok.lib.cls ci r4
        have hlen : gs.length = ns.length := by simpa using congrArg List.length r1
        have hnew : putF (c.g.p.fld f) v gs = gs ++ [(c.g.p.fld f, v)] := putF_new fun y hy hz => by
          have hm : y.1 ∈ gs.map (·.1) := List.mem_map.mpr ⟨y, hy, rfl⟩
          rw [r1, hz] at hm
          obtain ⟨n', hn1, hn2⟩ := List.mem_map.mp hm
          exact c2 (by rw [fld_inj ok.lib hf n' hn2.symm]; exact hn1)
        refine ⟨v0, k1, p0, c.g.cA ci, dx, gs, e1, e3, by rw [ok.K]; exact cl.1, by rw [ok.K]; exact cl.2 f hf, by omega, ?_⟩
        rw [hnew]
        have key : ∀ (F2 : Hp) (x' : OV) (fr : List Addr), EnvF c.g B F2 H' ρ σ fp → Same F' F2 → OwnO c.g F2 H' v x' fr → Apart B F2 fp fr → ρ' = setE ρ i (.ins ci (ns ++ [f]) (fs ++ [x'])) → D.nx σ (upd H' p0 (.ins (c.g.cA ci) dx (gs ++ [(c.g.p.fld f, v)]))) := fun F2 x' fr en2 sm2 o2 ap2 hρ => by
          have mem0 : p0 ∈ fp i := by rw [e2]; exact List.mem_cons_self
          have nF : F2 p0 = none := en2.non i p0 mem0
          have nfr : ∀ a ∈ fr, a ≠ p0 := fun a ha z => ap2.dj i p0 mem0 (by rw [← z]; exact ha)
          have ndi := en2.nd i
          rw [e2] at ndi
          obtain ⟨n0, n1⟩ := List.nodup_cons.mp ndi
          have os3 : OwnOs c.g F2 (upd H' p0 (.ins (c.g.cA ci) dx (gs ++ [(c.g.p.fld f, v)]))) ((gs ++ [(c.g.p.fld f, v)]).map (·.2)) (fs ++ [x']) (fps ++ [fr]) := by
            rw [List.map_append]
            refine owns_snoc ((r3.same sm2).stay (fun _ _ z => z) fun a ha => upd_ne fun z => n0 (by rw [← z]; exact ha)) (o2.stay (fun _ _ z => z) fun a ha => upd_ne (nfr a ha))
          refine pr2 F2 _ σ ⟨fun j => if j = i then p0 :: (fps ++ [fr]).flatten else fp j, ?_⟩
          rw [hρ]
          refine en2.chg (s' := .ins ci (ns ++ [f]) (fs ++ [x'])) (fq := [p0]) (fr' := p0 :: (fps ++ [fr]).flatten) k1 (setE_len (getV_some eg)) (fun a ha => by cases List.mem_singleton.mp ha; exact mem0) (fun a u hu => ?_) (fun _ _ z => z) (fun a ob ho hna => ⟨by rw [upd_ne (fun z => hna (by rw [z]; simp))]; exact ho, rfl⟩) ⟨p0, dx, gs ++ [(c.g.p.fld f, v)], fps ++ [fr], e1, rfl, upd_same, by rw [List.map_append, List.map_append, r1]; rfl, by rw [List.length_append]; simp; omega, os3, r4⟩ ?_ (fun a ha => ?_) (fun a ha => ?_)
          · have na : a ≠ p0 := fun z => by rw [z, nF] at hu; cases hu
            rw [upd_ne na]
            exact en2.sub a u hu
          · simp only [List.flatten_append, List.flatten_cons, List.flatten_nil, List.append_nil]
            refine List.nodup_cons.mpr ⟨fun z => ?_, List.nodup_append.mpr ⟨n1, ap2.nd, fun a ha b hb z => ap2.dj i a (by rw [e2]; exact List.mem_cons_of_mem _ ha) (by rw [z]; exact hb)⟩⟩
            rcases List.mem_append.mp z with z | z
            · exact n0 z
            · exact nfr p0 z rfl
          · simp only [List.flatten_append, List.flatten_cons, List.flatten_nil, List.append_nil, List.mem_cons, List.mem_append] at ha
            rcases ha with rfl | z | z
            · exact nF
            · exact en2.non i a (by rw [e2]; exact List.mem_cons_of_mem _ z)
            · exact ap2.non a z
          · simp only [List.flatten_append, List.flatten_cons, List.flatten_nil, List.append_nil, List.mem_cons, List.mem_append] at ha
            rcases ha with rfl | z | z
            · exact .inl mem0
            · exact .inl (by rw [e2]; exact List.mem_cons_of_mem _ z)
            · exact .inr ⟨fun j hj => ap2.dj j a hj z, ap2.from_ a z⟩
        cases k with
        | o y =>
          dsimp only at eρ
          split at eρ
          · exact key F' y fq en1 (fun _ _ z => z) o ap (Option.some.inj eρ).symm
          · exact key _ (.fz y.view) [] (en1.frz ap) (frzF_same ap.non) ⟨rfl, o.frozen (frzF_same ap.non) fun a ha => by unfold frzF; rw [if_pos ha]⟩ .nil (Option.some.inj eρ).symm
        | ins c2 n2 f2 => exact key _ (.fz (SV.view (.ins c2 n2 f2))) [] (en1.frz ap) (frzF_same ap.non) ⟨rfl, o.frozen (frzF_same ap.non) fun a ha => by unfold frzF; rw [if_pos ha]⟩ .nil (Option.some.inj eρ).symm
      · cases eρ
    · cases eρ
  · exact pr2.elim
end
end Pd

end
section
set_option linter.all false
set_option autoImplicit false
set_option Elab.async false
set_option maxRecDepth 100000
/-! Pd.Sts9: loops, raise. -/
namespace Pd
open PySem PySem.Spec PyProof.Rows L2
abbrev PI3 (g : G) (R : L2.It → Hp → Prop) : Hp → Hp → List D → Prop := fun F H xs => ∀ J F' H', Grow F H F' H' → xs.length ≤ sizeLine → SrcOK g J (fun F2 H2 => Same F' F2 ∧ Sub F2 H2) xs → R J H'
theorem PI3.mono {g : G} {R : L2.It → Hp → Prop} : Mono (PI3 g R) := fun _ _ _ _ _ x h J F' H' y => h J F' H' (x.trans y)
def SIs (c : Cc) (tg a : Expr) (it : Pd.It) : Prop := ∀ W X, Okx c W X → ∀ F H ρ σ R, Sub F H → EnvE c.g F H ρ σ → PRx c.g W σ (PI3 c.g R) F H (evif c.Φ it ρ) → WI X tg a σ H R
section
variable {c : Cc} {io : List Nat} {W : WX} {X : Cx} {a b d : Expr} {as rest : List Expr} {e f : E} {es : List E} {pos : Pos} {B : Bs} {F H : Hp} {σ : L2.St} {ρ : Env} {st : Stmt} {sts : List Stmt} {s : S} {ss : List S} {p : Pth} {pa tg : Expr}
theorem keepS_fr {e : E} {s k : SV} (h : keepS e s = some k) : k = s ∧ fr e s = some s.view := by
  unfold keepS at h
  split at h
  · cases Option.some.inj h
    exact ⟨rfl, rfl⟩
  · split at h
    · rename_i fe
      cases Option.some.inj h
      refine ⟨rfl, ?_⟩
      unfold fr
      split
      · rfl
      · rw [if_pos fe]
    · cases h
theorem sis_seq (h : SE c a e) : SIs c tg a (.seq e) := fun W X ok F H ρ σ R sb en pr => by
  unfold evif at pr
  refine pi_itv' (h.go ok sb en pr fun s v F' H' fp x o n f nd pr => ?_)
  obtain ⟨k, ek, pr2⟩ := PRx.of pr
  obtain ⟨xs, ex, q⟩ := PRx.of1 pr2
  obtain ⟨rfl, ef⟩ := keepS_fr ek
  obtain ⟨F2, x2, r⟩ := keep_fr sb x o n f ef
  have lists : ∀ {ds : List D}, k.view = .lst ds → ds = xs → ItV X tg σ v H' R := fun {ds} ev hd => by
    subst hd
    rw [ev] at r
    cases r with
    | lst h1 h2 h3 => exact itv_list (.inl (.inl (x2.sub.lst h1))) (q _ F2 H' x2 (by rw [← h3.length]; exact h2) (src_list fun F3 H3 y => ⟨y.2.lst (y.1 _ _ h1), Reps.mono y.1 _ h3⟩))
  unfold seqS at ex
  split at ex
  · cases Option.some.inj ex
    exact lists rfl rfl
  · cases Option.some.inj ex
    exact lists rfl rfl
  · cases Option.some.inj ex
    have r : Rep c.g F2 v (.tup xs) := r
    cases r with
    | tup h1 h2 h3 => exact itv_tup (by rw [ok.K]; exact x2.sub.sqT (g := c.g) h1) (q _ F2 H' x2 (by rw [← h3.length]; exact h2) (src_tup fun F3 H3 y => ⟨by rw [ok.K]; exact y.2.sqT (g := c.g) (sqT_mono y.1 h1), Reps.mono y.1 _ h3⟩))
  · cases Option.some.inj ex
    have r : Rep c.g F2 v (.str _) := r
    cases r with
    | str _ hz => exact itv_str (q _ F2 H' x2 (by rw [List.length_map]; exact hz) src_str)
  · cases ex
theorem sis_rng {n : Str} {p : Pos} (he : n = "range") (hn : n ∈ c.g.p.bis) (hg : c.sc.names.lookup n = some .globalImplicit) (hs : ∀ x ∈ as, okH x = true) (h3 : as.length = 1 ∨ as.length = 2 ∨ as.length = 3) (hl : es.length = as.length) (h : SA c as es) : SIs c tg (.Call (.Name n p) as [] pos) (.rng es) := fun W X ok F H ρ σ R sb en pr => by
  subst he
  have hgl : Gl X "range" := by show X.env.scope.names.lookup _ = _; rw [ok.sc]; exact hg
  have hmg : X.mg "range" = none := by rw [ok.mg]; exact ok.lib.bi _ hn
  unfold evif at pr
  match as, hs, h3, hl, h with
  | [a1], hs, _, hl, h =>
    have s1 := okH_star (hs a1 (by simp)) [] X.env
    refine wi_of (pi_range1 hgl hmg pa_wa s1) ?_
    refine h.goL ok sb en PI3.mono pr fun ds vs F' H' x r hd pr => ?_
    obtain ⟨xs, ex, q⟩ := PRx.of1 pr
    rw [hl] at hd
    rcases rngS_inv ex with ⟨j, rfl, c1, c2, rfl⟩ | ⟨i, j, rfl, c1, c2, c3, rfl⟩ | ⟨i, j, rfl, c1, c2, c3, rfl⟩
    · cases r with
      | cons r1 r2 =>
        cases r2
        cases r1
        obtain ⟨k1, k2⟩ := okR_of c1
        exact ⟨j, rfl, k1, k2, q _ F' H' (Grow.refl x.sub) (by rw [rngD_len]; exact limz c2) src_rng⟩
    · simp at hd
    · simp at hd
  | [a1, a2], hs, _, hl, h =>
    have s2 := okH_star (hs a2 (by simp)) [] X.env
    have s1 := (okH_star (hs a1 (by simp)) [a2] X.env).trans (by rw [s2])
    refine wi_of (pi_range2 hgl hmg pa_wa s1 s2) ?_
    refine h.goL ok sb en PI3.mono pr fun ds vs F' H' x r hd pr => ?_
    obtain ⟨xs, ex, q⟩ := PRx.of1 pr
    rw [hl] at hd
    rcases rngS_inv ex with ⟨j, rfl, c1, c2, rfl⟩ | ⟨i, j, rfl, c1, c2, c3, rfl⟩ | ⟨i, j, rfl, c1, c2, c3, rfl⟩
    · simp at hd
    · cases r with
      | cons r1 r2 =>
        cases r2 with
        | cons r2 r3 =>
          cases r3
          cases r1
          cases r2
          exact ⟨i, j, rfl, ⟨(okR_of c1).1, (okR_of c1).2, (okR_of c2).1, (okR_of c2).2⟩, q _ F' H' (Grow.refl x.sub) (by rw [rngD_len]; exact limz c3) src_rng⟩
    · simp at hd
  | [a1, a2, a3], hs, _, hl, h =>
    have s1 := okH_star (hs a1 (by simp)) [a2, a3] X.env
    have s2 : (backTo pos (starEach [a2, a3] X.env)).any (·.1) = false := any_star fun x hx => hs x (List.mem_cons_of_mem _ hx)
    refine wi_of (pi_range3 hgl hmg pa_wa s1 s2) ?_
    refine h.goL ok sb en PI3.mono pr fun ds vs F' H' x r hd pr => ?_
    obtain ⟨xs, ex, q⟩ := PRx.of1 pr
    rw [hl] at hd
    rcases rngS_inv ex with ⟨j, rfl, c1, c2, rfl⟩ | ⟨i, j, rfl, c1, c2, c3, rfl⟩ | ⟨i, j, rfl, c1, c2, c3, rfl⟩
    · simp at hd
    · simp at hd
    · cases r with
      | cons r1 r2 =>
        cases r2 with
        | cons r2 r3 =>
          cases r3 with
          | cons r3 r4 =>
            cases r4
            cases r1
            cases r2
            cases r3
            exact ⟨i, j, -1, (i - j).toNat, rfl, RgC.neg (okR_of c1).1 (okR_of c1).2 (okR_of c2).1 (okR_of c2).2, q _ F' H' (Grow.refl x.sub) (by rw [List.length_map, List.length_range]; exact limz c3) src_itc⟩
  | [], _, h3, _, _ => simp at h3
  | _ :: _ :: _ :: _ :: _, _, h3, _, _ => simp at h3
/-! ### for -/
theorem ss_for {iter : Expr} {body : List Stmt} {ct : Tg} {ci : Pd.It} {cb : List S} (hi : okH iter = true) (h1 : SIs c tg iter ci) (h2 : SG c tg ct) (hv : ∀ i ∈ tgv ct, i ∉ io) (h3 : SSs c io body cb) : SS c io (.For tg iter body [] pos) (.for_ ct ci cb) := fun W X ok os B F H ρ σ D hB en pr => by
  refine ws_of (ps_for os.pass ok.calm pi_wi pg_wg pss_wss (okH_fold hi X.env)) ?_
  unfold ex at pr
  have pr0 := PRs.toX en pr
  refine h1 W X ok F H ρ σ _ en.sub en.env ?_
  cases q0 : evif c.Φ ci ρ with
  | exc c' => rw [q0] at pr0; exact pr0
  | bad => rw [q0] at pr0; exact pr0.elim
  | ok xs =>
    rw [q0] at pr0
    intro J F1 H1 x1 hz src
    have kn1 : Same B.Fk F1 := by
      obtain ⟨fp, z⟩ := en.grow x1
      exact z.kn
    let bd : Pd.D → Env → RS := fun x ρ1 => match bindTg ct x ρ1 with
      | none => RS.bad
      | some ρ2 => exs c.Φ cb ρ2
    have pr0 : PRs c.g B W D (loopF bd xs ρ) := pr0
    let Iv : Nat → Nat → L2.St → Hp → Prop := fun i m σ2 H2 => m = xs.length - i ∧ i ≤ xs.length ∧ ∃ F2 ρ2, EnvR c.g B F2 H2 ρ2 σ2 ∧ Same F1 F2 ∧ PRs c.g B W D (loopF bd (xs.drop i) ρ2)
    refine ⟨Iv, ⟨xs.length, by omega, Nat.zero_le _, F1, ρ, en.grow x1, fun _ _ z => z, pr0⟩, fun i m σ2 H2 ⟨hm, hi2, F2, ρ2, en2, sm, hp⟩ => ?_⟩
    obtain ⟨s1, s2⟩ := src F2 H2 ⟨sm, en2.sub⟩ en2.sub i
    by_cases hlt : i < xs.length
    · obtain ⟨d, hd⟩ : ∃ d, xs[i]? = some d := ⟨xs[i], List.getElem?_eq_getElem hlt⟩
      obtain ⟨go, yl⟩ := s1 d hd
      have hdrop : xs.drop i = d :: xs.drop (i + 1) := by
        rw [List.drop_eq_getElem_cons hlt]
        rw [List.getElem?_eq_getElem hlt] at hd
        rw [Option.some.inj hd]
      rw [hdrop] at hp
      unfold loopF at hp
      refine .inr ⟨go, fun σ' H' => Iv (i + 1) (xs.length - (i + 1)) σ' H', fun σ' H' h' => ⟨xs.length - (i + 1), by omega, h'⟩, fun v H' y => ?_⟩
      obtain ⟨FZ, gz, rv⟩ := yl v H' y
      have sm : Same F1 FZ := fun a u e => gz.same en2.sub a u (sm a u e)
      have en2 := en2.grow gz
      have hbd : bd d ρ2 = match bindTg ct d ρ2 with | none => RS.bad | some ρ3 => exs c.Φ cb ρ3 := rfl
      cases q1 : bindTg ct d ρ2 with
      | none =>
        rw [q1] at hbd
        rw [hbd] at hp
        exact hp.elim
      | some ρ3 =>
        rw [q1] at hbd
        have hbd : bd d ρ2 = exs c.Φ cb ρ3 := hbd
        rw [hbd] at hp
        refine h2 W X ok FZ H' ρ2 σ2 v d ρ3 _ en2.sub rv q1 fun σ3 st => ?_
        have en3 := st.envR (fun i hi => by rw [hB]; exact hv i hi) en2
        -- the body, remembering what is frozen
        have down : ∀ {F3 H3 ρ4 σ4}, EnvR c.g { B with Fk := F1 } F3 H3 ρ4 σ4 → EnvR c.g B F3 H3 ρ4 σ4 ∧ Same F1 F3 := fun {F3 H3 ρ4 σ4} ⟨fp, z⟩ => ⟨⟨fp, { z with kn := fun a u e => z.kn a u (kn1 a u e) }⟩, z.kn⟩
        have downF : ∀ {F3 H3 ρ4 σ4 fp}, EnvF c.g { B with Fk := F1 } F3 H3 ρ4 σ4 fp → EnvF c.g B F3 H3 ρ4 σ4 fp := fun {F3 H3 ρ4 σ4 fp} z => { z with kn := fun a u e => z.kn a u (kn1 a u e) }
        have en4 : EnvR c.g { B with Fk := F1 } FZ H' ρ3 σ3 := by
          obtain ⟨fp, z⟩ := en3
          exact ⟨fp, { z with kn := sm }⟩
        refine h3 W X ok os { B with Fk := F1 } FZ H' ρ3 σ3 _ hB en4 ?_
        have nxt : ∀ ρ', PRs c.g B W D (loopF bd (xs.drop (i + 1)) ρ') → ∀ F3 H3 σ4, EnvR c.g { B with Fk := F1 } F3 H3 ρ' σ4 → Iv (i + 1) (xs.length - (i + 1)) σ4 H3 := fun ρ' hq F3 H3 σ4 z => ⟨rfl, by omega, F3, ρ', (down z).1, (down z).2, hq⟩
        cases q2 : exs c.Φ cb ρ3 with
        | ok fl =>
          rw [q2] at hp
          cases fl with
          | nx ρ' => exact nxt ρ' hp
          | ct ρ' => exact nxt ρ' hp
          | bk ρ' => exact fun F3 H3 σ4 z => hp F3 H3 σ4 (down z).1
          | rt s ρ' => exact fun F3 H3 σ4 fp v fq z o ap => hp F3 H3 σ4 fp v fq (downF z) o ⟨ap.nd, ap.non, ap.dj, ap.from_⟩
        | exc ci ρ' =>
          rw [q2] at hp
          exact fun F3 H3 σ4 z => hp F3 H3 σ4 (down z).1
        | bad => rw [q2] at hp; exact hp.elim
    · refine .inl ⟨s2 (by omega), ?_⟩
      have he : xs.drop i = [] := List.drop_eq_nil_iff.mpr (by omega)
      rw [he] at hp
      exact hp F2 H2 σ2 en2
/-! ### while, raise -/
theorem ss_whl {is : List Nat} {body : List Stmt} {cb : List S} (h1 : ST c a e) (h3 : SSs c io body cb) : SS c io (.While a body [] pos) (.whl is e cb) := fun W X ok os B F H ρ σ D hB en pr => by
  refine ws_of (ps_while os.pass pt_wt pss_wss) ?_
  unfold ex at pr
  refine ⟨fun m σ2 H2 => ∃ F2 ρ2, EnvR c.g B F2 H2 ρ2 σ2 ∧ PRs c.g B W D (loopW (fun ρ1 => evB c.Φ e ρ1) (fun ρ1 => exs c.Φ cb ρ1) m ρ2), ⟨wfuel, F, ρ, en, pr⟩, fun m σ2 H2 ⟨F2, ρ2, en2, hp⟩ => ?_⟩
  cases m with
  | zero => exact hp.elim
  | succ m =>
    unfold loopW at hp
    refine h1.goD ok en2 hp fun b F' H' x hp => ?_
    cases b with
    | false =>
      rw [if_neg (by decide)]
      exact hp F' H' σ2 (en2.grow x)
    | true =>
      rw [if_pos rfl]
      refine ⟨fun σ' H' => ∃ F3 ρ3, EnvR c.g B F3 H' ρ3 σ' ∧ PRs c.g B W D (loopW (fun ρ1 => evB c.Φ e ρ1) (fun ρ1 => exs c.Φ cb ρ1) m ρ3), fun σ' H' h => ⟨m, Nat.lt_succ_self m, h⟩, ?_⟩
      refine h3 W X ok os B F' H' ρ2 σ2 _ hB (en2.grow x) ?_
      cases q2 : exs c.Φ cb ρ2 with
      | ok fl =>
        rw [if_pos rfl, q2] at hp
        cases fl with
        | nx ρ' => exact fun F3 H3 σ4 z => ⟨F3, ρ', z, hp⟩
        | ct ρ' => exact fun F3 H3 σ4 z => ⟨F3, ρ', z, hp⟩
        | bk ρ' => exact hp
        | rt s ρ' => exact hp
      | exc ci ρ' =>
        rw [if_pos rfl, q2] at hp
        exact hp
      | bad => rw [if_pos rfl, q2] at hp; exact hp.elim
theorem ss_rse {i : Nat} {m : Str} {j : Nat} {xp p2 cp : Pos} (hi : i < c.g.p.excs.length) (hg : c.sc.names.lookup (c.g.p.excN i) = some .globalImplicit) (hd : ((c.g.p.excN i) == ("__debug__" : Str)) = false) : SS c io (.Raise (some (.Call (.Name (c.g.p.excN i) xp) [.Constant (.str m) j p2] [] cp)) none pos) (.rse i) := fun W X ok os B F H ρ σ D hB en pr => by
  obtain ⟨bmB, Bn, newId, initId, h1, h2⟩ := (ok.lib.exc i hi).ex
  have ex := ok.lib.exc i hi
  refine ws_of (ps_raise ok.calm ok.tk (pmk_own h1 (by rw [ok.K]; exact h2) (by rw [ok.mg]; exact ex.mg) (by rw [ok.K]; exact ex.kp) (raises_own (by rw [ok.K]; exact ex.sub) (by rw [ok.K]; exact ex.ty)) (by show X.env.scope.names.lookup _ = _; rw [ok.sc]; exact hg) hd)) ?_
  exact pr F H σ en
end
end Pd

end
section
set_option linter.all false
set_option autoImplicit false
set_option Elab.async false
set_option maxRecDepth 100000
/-! Pd.Try: try .. except. -/
namespace Pd
open PySem PySem.Spec PyProof.Rows L2
section
variable {c : Cc} {io : List Nat} {W : WX} {X : Cx} {pos : Pos} {B : Bs} {F H : Hp} {σ : L2.St} {ρ : Env} {D : Ends}
theorem Okx.try_ {pn : List (Addr × Obj)} {xe : Value → Shared → Prop} {W' : WX} (ok : Okx c W X) (tk : Takes (X.tr pn xe) W') : Okx c W' (X.tr pn xe) :=
  ⟨ok.pr, ok.w, ok.K, ok.calm, ok.mg, ok.base, ok.N, ok.nd, ok.sc, ok.fn, ok.room, tk, ok.lib, ok.lvl⟩
theorem OkS.try_ {pn : List (Addr × Obj)} {xe : Value → Shared → Prop} (os : OkS X) (ps : PassesOwn (model X.prog X.w) X.A X.env xe) : OkS (X.tr pn xe) := ⟨ps, os.stk, os.frm⟩
theorem PRs.okW {W W' : WX} {fl : Fl} (pr : PRs c.g B W D (.ok fl)) : PRs c.g B W' D (.ok fl) := by cases fl <;> exact pr
theorem exs_ret1 (Φ : Phi) (d : Pd.D) (ρ : Env) : exs Φ [.ret (.lit d)] ρ = .ok (.rt (fz d) ρ) := by
  rw [exs, ex, ev]
  show RS.seq (RS.of ρ (R.ok (fz d)) fun s => RS.of ρ (R.of (keepS (.lit d) s)) fun k => .ok (.rt k ρ)) _ = _
  rfl
/-- try: .. except E as n: return isinstance(n, X), E the base of all -/
theorem ss_try_is {i x : Nat} {n : Str} {body : List Stmt} {cb : List S} {np p p2 p3 p4 p5 pos' : Pos} {l2 : List Nat} (hx : x < c.g.p.excs.length) (hx0 : x ≠ 0) (hN : c.N[i]? = some n) (hln : c.sc.names.lookup n = some .local) (hd : (n == ("__debug__" : Str)) = false) (hcd : (n == ("__classdict__" : Str)) = false)
    (hg0 : c.sc.names.lookup (c.g.p.excN 0) = some .globalImplicit) (hd0 : ((c.g.p.excN 0) == ("__debug__" : Str)) = false) (hgx : c.sc.names.lookup (c.g.p.excN x) = some .globalImplicit) (hdx : ((c.g.p.excN x) == ("__debug__" : Str)) = false)
    (hb : ("isinstance" : Str) ∈ c.g.p.bis) (hgi : c.sc.names.lookup ("isinstance" : Str) = some .globalImplicit) (hl2 : ∀ j ∈ l2, j < c.g.p.excs.length) (h : SSs c io body cb) :
    SS c io (.Try body [.ExceptHandler (some (.Name (c.g.p.excN 0) np)) (some n) [.Return (some (.Call (.Name "isinstance" p) [.Name n p2, .Name (c.g.p.excN x) p3] [] p4)) p5] pos'] [] [] pos) (.try_ cb [([x], [.ret (.lit (.bl true))]), (l2, [.ret (.lit (.bl false))])]) := fun W X ok os B F H ρ σ D hB en pr => by
  have h0 : 0 < c.g.p.excs.length := by omega
  have q := ok.lib.exq
  have e0 := ok.lib.exc 0 h0
  have ex := ok.lib.exc x hx
  have sc : ∀ y, X.env.kindOf y = c.sc.names.lookup y := fun y => by show X.env.scope.names.lookup _ = _; rw [ok.sc]
  have hNm : Names X (c.g.p.excN 0) (.ref (c.g.xA 0)) := ⟨by show X.env.scope.names.lookup _ = _; rw [ok.sc]; exact hg0, hd0, .inl (by rw [ok.mg]; exact e0.mg)⟩
  refine ws_of (ps_try_as (i := i) (c := .ref (c.g.xA 0)) os.stk os.frm ok.ndX (by rw [ok.N]; exact hN) (by rw [sc]; exact hln) hNm ok.tk
    (tb := fun W' D' σ' H' => ∃ F ρ, EnvR c.g B F H' ρ σ' ∧ PRs c.g B W' D' (exs c.Φ cb ρ))
    (ts := fun a cls d D' σ' H' => ∃ (j : Nat) (σ0 : L2.St), j < c.g.p.excs.length ∧ cls = .ref (c.g.xA j) ∧ d = none ∧ σ' = σ0.set i (some (.ref a)) ∧ D'.rt (.bl (subX j x)) H')
    (fun W' pn xe tk ps => ⟨fun pins s σ' H' D' I ⟨F', ρ', en', pr'⟩ => h W' (X.tr pn xe) (ok.try_ tk) (os.try_ ps) B F' H' ρ' σ' D' hB en' pr' pins s I⟩)
    (fun a oe cls d pn hz hf => ⟨fun pins s σ' H' D' I hh => ?_⟩)) ?_
  · obtain ⟨j, σ0, hj, rfl, rfl, rfl, hr⟩ := hh
    have len : i < σ0.length := by
      have l1 : (σ0.set i (some (V.ref a))).length = X.N.length := I.len
      rw [List.length_set, ok.N] at l1
      rw [l1]
      exact (List.getElem?_eq_some_iff.mp hN).1
    have hσ : (σ0.set i (some (V.ref a)))[i]? = some (some (.ref a)) := List.getElem?_set_self len
    have call : PE (X.suite a ((a, oe) :: pn)) (.Call (.Name "isinstance" p) [.Name n p2, .Name (c.g.p.excN x) p3] [] p4) _ :=
      pe_callB (call_isE (X := X) (a := a) (pn := pn) (by rw [ok.K]; exact q.isq j hj) hz hf) (show (X.suite a ((a, oe) :: pn)).env.scope.names.lookup _ = _ by show X.env.scope.names.lookup _ = _; rw [ok.sc]; exact hgi)
        (show X.mg "isinstance" = none by rw [ok.mg]; exact ok.lib.bi _ hb) (by decide +kernel)
        (pa_cons (pe_var (i := i) (X := X.suite a ((a, oe) :: pn)) (by show X.N[i]? = _; rw [ok.N]; exact hN) (by show Vis X.env.scope n; rw [ok.sc]; exact .inl hln) hd hcd)
          (pa_cons (pe_glob (X := X.suite a ((a, oe) :: pn)) (v := .ref (c.g.xA x)) (by show X.env.scope.names.lookup _ = _; rw [ok.sc]; exact hgx) (by show X.mg _ = _; rw [ok.mg]; exact ex.mg) rfl hdx) pa_nil rfl) rfl) (by decide) (by decide)
    refine (pss_one (ps_ret call)).run pins s _ H' D' I ?_
    refine ⟨_, hσ, ?_⟩
    exact ⟨.ref (c.g.xA x), .ref (c.g.xA x), subX j x, rfl, fun u r => r, by rw [ok.K]; exact q.kit j x hj hx, hr⟩
  · refine ⟨F, ρ, en, ?_⟩
    unfold Pd.ex at pr
    cases hq : exs c.Φ cb ρ with
    | ok fl =>
      rw [hq] at pr
      exact PRs.okW pr
    | bad => rw [hq] at pr; exact pr.elim
    | exc j ρ' =>
      rw [hq] at pr
      have pr1 : PRs c.g B W D (exh c.Φ j ρ' [([x], [.ret (.lit (.bl true))]), (l2, [.ret (.lit (.bl false))])]) := pr
      clear pr
      rw [exh] at pr1
      intro F1 H1 σ1 en1
      have fin : ∀ b : Bool, PRs c.g B W D (.ok (.rt (fz (.bl b)) ρ')) → D.rt (.bl b) H1 := fun b pr => by
        obtain ⟨fp, e2⟩ := en1
        exact pr F1 H1 σ1 fp (.bl b) [] e2 ⟨rfl, .bl b⟩ .nil
      by_cases c1 : [x].contains j = true
      · rw [if_pos c1, exs_ret1] at pr1
        have : j = x := by simpa using c1
        subst this
        refine ⟨true, by rw [ok.K, q.exm j 0 hx h0]; simp [subX], fun _ a ha => ⟨j, σ1, hx, rfl, rfl, rfl, ?_⟩, fun z => nomatch z⟩
        · have : subX j j = true := by simp [subX]
          rw [this]
          exact fin true pr1
      · rw [if_neg c1] at pr1
        rw [exh] at pr1
        by_cases c2 : l2.contains j = true
        · rw [if_pos c2, exs_ret1] at pr1
          have hj : j < c.g.p.excs.length := hl2 j (by simpa using c2)
          refine ⟨true, by rw [ok.K, q.exm j 0 hj h0]; simp [subX], fun _ a ha => ⟨j, σ1, hj, rfl, rfl, rfl, ?_⟩, fun z => nomatch z⟩
          · have : subX j x = false := by
              have : j ≠ x := by simpa using c1
              simp [subX, this, hx0]
            rw [this]
            exact fin false pr1
        · rw [if_neg c2] at pr1
          rw [exh] at pr1
          exact pr1.elim
end
end Pd

end
section
set_option linter.all false
set_option autoImplicit false
set_option Elab.async false
set_option maxRecDepth 100000
/-! Pd.Zip: zip of two frozen tuples, of two frozen lists. -/
namespace Pd
open PySem PySem.Spec PyProof.Rows L2
theorem zipD_get : ∀ {xs ys : List D} {i : Nat} {d : D}, (zipD xs ys)[i]? = some d → ∃ x y, xs[i]? = some x ∧ ys[i]? = some y ∧ d = .tup [x, y]
  | [], _, i, d, h => by simp [zipD] at h
  | x :: xs, [], i, d, h => by simp [zipD] at h
  | x :: xs, y :: ys, 0, d, h => by
    simp [zipD] at h
    exact ⟨x, y, rfl, rfl, h.symm⟩
  | x :: xs, y :: ys, i + 1, d, h => by
    simp only [zipD, List.getElem?_cons_succ] at h ⊢
    exact zipD_get h
theorem zipD_len : ∀ (xs ys : List D), (zipD xs ys).length = min xs.length ys.length
  | [], ys => by simp [zipD]
  | x :: xs, [] => by simp [zipD]
  | x :: xs, y :: ys => by
    simp only [zipD, List.length_cons, zipD_len xs ys]
    omega
/-! ### zip of a list with a tuple -/
/-- the list at a beside the tuple at b, each time a new pair -/
def ItM (K : PySem.W.Frag) (a b : Addr) : L2.It where
  go i H := ∃ (xs ys : List V) (x y : V), (SqL K H a xs ∧ xs[i]? = some x) ∧ SqT K H b ys ∧ ys[i]? = some y
  yld i H v H' := ∃ T x y, (v = .ref T ∧ H T = none) ∧ H' = upd H T (.tup [x, y]) ∧ (∀ l, SqL K H a l → l[i]? = some x) ∧ ∀ l, SqT K H b l → l[i]? = some y
  stop i H := ∃ xs ys : List V, (SqL K H a xs ∧ SqT K H b ys) ∧ (xs.length ≤ i ∨ ys.length ≤ i)
/-- what draws on from i: as long as there is something, or at the end -/
theorem draws_list {prog : Program} {w : World} {A : Around} (hh : A.handled = none) {it l : Addr} (hne : l ≠ it) (its : Array Value) (i : Nat) : ∃ n P St, Draws prog w A it [it, l] n P St ∧ i ≤ n ∧ (its.size ≤ i → n = i) ∧ ∀ h : Heap, h.IsListIter it l i → h.IsList l its → St i h := by
  by_cases c : i < its.size
  · exact ⟨_, _, _, Draws.list hh it l hne its, by omega, fun q => by omega, fun h h1 h2 => ⟨h1, h2⟩⟩
  · exact ⟨i, fun _ _ => False, fun j h => j = i ∧ h.IsListIter it l i ∧ h.IsList l its, {
      live := fun _ _ z => let ⟨o, ho, _⟩ := z.2.1; ⟨o, ho⟩
      frame := fun _ _ _ z hk => ⟨z.1, z.2.1.at fun o => hk it (by simp) o, z.2.2.at fun o => hk l (by simp) o⟩
      item := fun j _ _ _ hj z _ => absurd z.1 (Nat.ne_of_lt hj)
      done := fun _ _ _ z q => wpAny_nextOf_list_end hh z.2.1 z.2.2 (by simp; omega) q }, Nat.le_refl _, fun _ => rfl, fun h h1 h2 => ⟨rfl, h1, h2⟩⟩
theorem draws_tuple {prog : Program} {w : World} {A : Around} (hh : A.handled = none) {it l : Addr} (hne : l ≠ it) (its : Array Value) (i : Nat) : ∃ n P St, Draws prog w A it [it, l] n P St ∧ i ≤ n ∧ (its.size ≤ i → n = i) ∧ ∀ h : Heap, h.IsTupleIter it l i → h.IsTuple l its → St i h := by
  by_cases c : i < its.size
  · exact ⟨_, _, _, Draws.tuple hh it l hne its, by omega, fun q => by omega, fun h h1 h2 => ⟨h1, h2⟩⟩
  · exact ⟨i, fun _ _ => False, fun j h => j = i ∧ h.IsTupleIter it l i ∧ h.IsTuple l its, {
      live := fun _ _ z => let ⟨o, ho, _⟩ := z.2.1; ⟨o, ho⟩
      frame := fun _ _ _ z hk => ⟨z.1, z.2.1.at fun o => hk it (by simp) o, z.2.2.at fun o => hk l (by simp) o⟩
      item := fun j _ _ _ hj z _ => absurd z.1 (Nat.ne_of_lt hj)
      done := fun _ _ _ z q => wpAny_nextOf_tuple_end hh z.2.1 z.2.2 (by simp; omega) q }, Nat.le_refl _, fun _ => rfl, fun h h1 h2 => ⟨rfl, h1, h2⟩⟩
theorem turn_mix {P : Program} {w : World} {K : PySem.W.Frag} {elts : List Expr} {kk : Nat} {tpos : Pos} {a b z TI TO i1 i2 : Addr} (S : ZipSep2 z TI TO i1 i2 [i1, a] [i2, b]) (ha : a ≠ i1) (hb : b ≠ i2) :
    Turn P w K (.Tuple elts kk tpos) (ItM K a b) [z, TI, TO, i1, i2] z (fun i h => (IsZip h z TI TO .none ∧ IsTupOf2 h TI (.ref i1) (.ref i2)) ∧ (∃ u v, IsTupOf2 h TO u v) ∧ h.IsListIter i1 a i ∧ h.IsTupleIter i2 b i) where
  mem := by simp
  obj := fun i h st c hc => by
    obtain ⟨⟨hz, hTI⟩, ⟨u, v, hTO⟩, ⟨p1, e1, _, d1⟩, p2, e2, _, d2⟩ := st
    simp only [List.mem_cons, List.not_mem_nil, or_false] at hc
    rcases hc with rfl | rfl | rfl | rfl | rfl
    · exact ⟨_, hz, nofun⟩
    · exact ⟨_, hTI, nofun⟩
    · exact ⟨_, hTO, nofun⟩
    · exact ⟨p1, e1, fun v q => by rw [d1] at q; cases q⟩
    · exact ⟨p2, e2, fun v q => by rw [d2] at q; cases q⟩
  keep := fun i h h' st k => by
    obtain ⟨⟨hz, hTI⟩, ⟨u, v, hTO⟩, t1, t2⟩ := st
    exact ⟨⟨k z (by simp) _ hz, k TI (by simp) _ hTI⟩, ⟨u, v, k TO (by simp) _ hTO⟩, t1.at fun o => k i1 (by simp) o, t2.at fun o => k i2 (by simp) o⟩
  item := by
    intro X hP hw hK hc i pins s σ H E I hf st hg
    subst hP hw hK
    obtain ⟨⟨hz, hTI⟩, ⟨u0, v0, hTO⟩, t1, t2⟩ := st
    obtain ⟨xs, ys, x, y, ⟨qx, ex⟩, qy, ey⟩ := hg
    obtain ⟨its, rv, p, _⟩ := I.list qx
    obtain ⟨its2, rv2, p2, _⟩ := I.tuple qy
    obtain ⟨u, hu, ru⟩ := rv.get ex
    obtain ⟨v, hv, rv'⟩ := rv2.get ey
    have zl : z < s.heap.objs.size := Heap.lt_size hz
    have l1 : i < its.toArray.size := by
      obtain ⟨q, _⟩ := List.getElem?_eq_some_iff.mp hu
      simpa using q
    have l2 : i < its2.toArray.size := by
      obtain ⟨q, _⟩ := List.getElem?_eq_some_iff.mp hv
      simpa using q
    have hh : X.A.in1.handled = none := I.ok.hd hc
    have p1' : s.heap.IsList a its.toArray := p.isList
    have p2' : s.heap.IsTuple b its2.toArray := p2
    refine wpAny_pyNext_zipD2_item S (Draws.list hh i1 a ha its.toArray) (Draws.tuple hh i2 b hb its2.toArray) hz hTI hTO ⟨t1, p1'⟩ ⟨t2, p2'⟩ l1 l2 fun x1 x2 h' tk hx1 hx2 hz' hTO' t1' t2' hT hsz hk => ?_
    obtain rfl : x1 = u := by
      have q : its[i]? = some x1 := by simpa using hx1
      rw [hu] at q
      exact (Option.some.inj q).symm
    obtain rfl : x2 = v := by
      have q : its2[i]? = some x2 := by simpa using hx2
      rw [hv] at q
      exact (Option.some.inj q).symm
    refine ⟨_, rfl, wpAny_letOwnedTupleGo_zip (s := { s with heap := h', toks := tk }) hz' fun h'' hz'' sb => ?_⟩
    have hT2 : h''.get? s.heap.objs.size = some { cls := .type "tuple", data := .seq #[x1, x2] } := (sb.2 _ (Nat.ne_of_gt zl)).trans hT
    have new : ObjOk X.prog X.w (upd H s.heap.objs.size (.tup [x, y])) h'' s.heap.objs.size (.tup [x, y]) := ⟨by show 2 ≤ sizeLine; decide, [x1, x2], .cons ru (.cons rv' .nil), _, hT2, rfl, _, rfl⟩
    have I1 : Inv X pins σ (upd H s.heap.objs.size (.tup [x, y])) { s with heap := h'', toks := tk } :=
      I.turnedNew (ch := [z, TI, TO, i1, i2]) (fun c ob hb q => (sb.2 c (fun e => hb (by simp [e]))).trans (hk c ob (fun e => hb (by simp [e])) (fun e => hb (by simp [e])) (fun e => hb (by simp [e])) (fun e => hb (by simp [e])) q)) hf (Nat.le_refl _) new
    refine ⟨.ref s.heap.objs.size, _, I1, rfl, ⟨_, x, y, ⟨rfl, I.hok.fresh (Nat.le_refl _)⟩, rfl, fun l hl => by rw [I.list_inj hl qx]; exact ex, fun l hl => by rw [I.tuple_inj hl qy]; exact ey⟩, ⟨⟨hz'', ?_⟩, ⟨x1, x2, ?_⟩, ?_, ?_⟩, fun c hcm => ?_⟩
    · exact (sb.2 _ S.TIz).trans (hk _ _ S.TIz S.TITO S.TIi1 S.TIi2 hTI)
    · exact (sb.2 _ S.TOz).trans hTO'
    · exact t1'.1.at fun o => (sb.2 _ (Ne.symm S.zi1)).trans
    · exact t2'.1.at fun o => (sb.2 _ (Ne.symm S.zi2)).trans
    · have hlt : c < s.heap.objs.size := by
        simp only [List.mem_cons, List.not_mem_nil, or_false] at hcm
        rcases hcm with rfl | rfl | rfl | rfl | rfl
        · exact zl
        · exact Heap.lt_size hTI
        · exact Heap.lt_size hTO
        · obtain ⟨_, e, _⟩ := t1; exact Heap.lt_size e
        · obtain ⟨_, e, _⟩ := t2; exact Heap.lt_size e
      rw [upd_ne (Nat.ne_of_lt hlt)]
      exact (hf c hcm).1
  done := by
    intro X hP hw hK hc i pins s σ H E I hf st hg
    subst hP hw hK
    obtain ⟨⟨hz, hTI⟩, ⟨u0, v0, hTO⟩, t1, t2⟩ := st
    obtain ⟨xs, ys, ⟨qx, qy⟩, hend⟩ := hg
    obtain ⟨its, rv, p, _⟩ := I.list qx
    obtain ⟨its2, rv2, p2, _⟩ := I.tuple qy
    have e1 := rv.length
    have e2 := rv2.length
    have hh : X.A.in1.handled = none := I.ok.hd hc
    obtain ⟨n1, P1, St1, D1, b1, c1, f1⟩ := draws_list (prog := X.prog) (w := X.w) hh ha its.toArray i
    obtain ⟨n2, P2, St2, D2, b2, c2, f2⟩ := draws_tuple (prog := X.prog) (w := X.w) hh hb its2.toArray i
    have en : i = n1 ∨ i = n2 := by
      rcases hend with q | q
      · exact .inl (c1 (by simp; omega)).symm
      · exact .inr (c2 (by simp; omega)).symm
    exact wpAny_pyNext_zipD2_end S D1 D2 hz hTI hTO (f1 _ t1 p.isList) (f2 _ t2 p2) b1 b2 en fun h' tk hk => ⟨rfl, I.turnedL (ch := [z, TI, TO, i1, i2]) (fun c o hb q => hk c o (fun e => hb (by simp [e])) (fun e => hb (by simp [e])) (fun e => hb (by simp [e])) (fun e => hb (by simp [e])) q) hf⟩
  self := fun A i s Q E st h => wpAny_pyIter_zip st.1.1 h
theorem no2 {x y z : Nat} (h : x ≠ y) (k : x ≠ z) : x ∉ [y, z] := by simp [h, k]
theorem sep_of {n a b : Nat} (la : a < n) (lb : b < n) : ZipSep2 (n + 4) (n + 2) (n + 3) n (n + 1) [n, a] [n + 1, b] where
  TIz := show (n + 2 : Nat) ≠ n + 4 by omega
  TOz := show (n + 3 : Nat) ≠ n + 4 by omega
  TITO := show (n + 2 : Nat) ≠ n + 3 by omega
  TIi1 := show (n + 2 : Nat) ≠ n by omega
  mem1 := List.mem_cons_self
  zf1 := no2 (by omega) (by omega)
  Tf1 := no2 (by omega) (by omega)
  TIi2 := show (n + 2 : Nat) ≠ n + 1 by omega
  mem2 := List.mem_cons_self
  zf2 := no2 (by omega) (by omega)
  Tf2 := no2 (by omega) (by omega)
  sep1_2 := no2 (by omega) (by omega)
  sep2_1 := no2 (by omega) (by omega)
/-- zip of two lists, of two tuples, of a list with a tuple -/
def iZip3 (K : PySem.W.Frag) (ta : TA) : TI := fun σ H R => ta σ H fun vs H1 => ∃ a b xs ys, vs = [.ref a, .ref b] ∧ (((SqL K H1 a xs ∧ SqL K H1 b ys ∧ R (Itz K a b) H1) ∨ (SqT K H1 a xs ∧ SqT K H1 b ys ∧ R (RZ.ItzT K a b) H1)) ∨ (SqL K H1 a xs ∧ SqT K H1 b ys) ∧ R (ItM K a b) H1)
theorem pi_zip3 {X : Cx} {e e2 : Expr} {ta : TA} {p pos tpos : Pos} {elts : List Expr} {kk : Nat} (hg : Gl X "zip") (hm : X.mg "zip" = none) (ha : PA X [e, e2] ta)
    (hs : starEach [e, e2] X.env = (false, eval e X.env) :: starEach [e2] X.env) (hpl : (backTo pos (starEach [e2] X.env)).any (·.1) = false) : PI X (.Tuple elts kk tpos) (.Call (.Name "zip" p) [e, e2] [] pos) (iZip3 X.K ta) := by
  refine ⟨fun pins s σ H R I h => Call_ (ld_blt I hg hm PyProof.Rows.boot_zip (PyProof.Rows.callWith_type1 (thn (ha.run pos pins s σ H _ I h) fun us s1 ⟨vs, H1, I1, r1, q1⟩ => ?_) hs hpl))⟩
  obtain ⟨a, b, xs, ys, rfl, q1⟩ := q1
  cases r1 with
  | cons r rr => cases rr with
    | cons r' rr =>
      cases rr
      cases r
      cases r'
      have five : ∀ c, c ∈ [s1.heap.objs.size + 4, s1.heap.objs.size + 2, s1.heap.objs.size + 3, s1.heap.objs.size, s1.heap.objs.size + 1] → FpOk X pins H1 c := fun c hc => by
        have le : s1.heap.objs.size ≤ c := by
          have all : ∀ c ∈ [s1.heap.objs.size + 4, s1.heap.objs.size + 2, s1.heap.objs.size + 3, s1.heap.objs.size, s1.heap.objs.size + 1], s1.heap.objs.size ≤ c := by simp
          exact all c hc
        exact I1.fpOk le (I1.hok.fresh le)
      have kept : ∀ {h' : Heap}, (∀ c o, s1.heap.get? c = some o → h'.get? c = some o) → Inv X pins σ H1 { s1 with heap := h' } := fun hk => I1.kept (t' := s1.toks) hk
      rcases q1 with (⟨qx, qy, q⟩ | ⟨qx, qy, q⟩) | ⟨⟨qx, qy⟩, q⟩
      · obtain ⟨its, rv, p1, _⟩ := I1.list qx
        obtain ⟨its2, rv2, p2, _⟩ := I1.list qy
        exact call_zip_2 p1.isList p2.isList fun h' hz hTI hTO t1 t2 hsz hk => wpAny_pyIter_zip hz ⟨_, _, _, _, H1, rfl, kept hk, turn_zip (PySem.W.ktu_apart s1.heap.objs.size a b p1.lt p2.lt), ⟨hz, hTI, ⟨_, _, hTO⟩, t1, t2⟩, five, q⟩
      · obtain ⟨its, rv, p1, _⟩ := I1.tuple qx
        obtain ⟨its2, rv2, p2, _⟩ := I1.tuple qy
        obtain ⟨o1, ho1, _⟩ := id p1
        obtain ⟨o2, ho2, _⟩ := id p2
        exact RZ.call_zipT (show s1.heap.IsTuple a its.toArray from p1) (show s1.heap.IsTuple b its2.toArray from p2) fun h' hz hTI hTO t1 t2 hsz hk => wpAny_pyIter_zip hz ⟨_, _, _, _, H1, rfl, kept hk, RZ.turn_zipT (PySem.W.ktu_apart s1.heap.objs.size a b (Heap.lt_size ho1) (Heap.lt_size ho2)), ⟨hz, hTI, ⟨_, _, hTO⟩, t1, t2⟩, five, q⟩
      · obtain ⟨its, rv, p1, _⟩ := I1.list qx
        obtain ⟨its2, rv2, p2, _⟩ := I1.tuple qy
        obtain ⟨o2, ho2, _⟩ := id p2
        have la : a < s1.heap.objs.size := p1.lt
        have lb : b < s1.heap.objs.size := Heap.lt_size ho2
        have S := sep_of la lb
        exact zip_begins2 (begins_list a its.toArray) (begins_tuple b its2.toArray) p1.isList (show s1.heap.IsTuple b its2.toArray from p2) fun h' hz hTI hTO g1 g2 hsz hk => wpAny_pyIter_zip hz ⟨_, _, _, _, H1, rfl, kept hk, turn_mix S (Nat.ne_of_lt la) (Nat.ne_of_lt (Nat.lt_succ_of_lt lb)), ⟨⟨hz, hTI⟩, ⟨_, _, hTO⟩, ⟨_, g1, rfl, rfl⟩, ⟨_, g2, rfl, rfl⟩⟩, five, q⟩
section
variable {c : Cc} {W : WX} {X : Cx} {F H : Hp} {σ : L2.St} {ρ : Env} {pos : Pos}
theorem two_line : ([V.non, V.non] : List V).length ≤ sizeLine := by rw [sizeLine_eq]; decide
theorem pair_rep {g : G} {F H : Hp} {T : Addr} {v u : V} {x y : D} (sb : Sub F H) (n : H T = none) (rv : Rep g F v x) (ru : Rep g F u y) : Grow F H (upd F T (.tup [v, u])) (upd H T (.tup [v, u])) ∧ Rep g (upd F T (.tup [v, u])) (.ref T) (.tup [x, y]) := by
  have gx : Grow F H (upd F T (.tup [v, u])) (upd H T (.tup [v, u])) := Grow.new sb n
  exact ⟨gx, .tup (.inl (.inl upd_same)) (by rw [sizeLine_eq]; simp) (.cons (Rep.mono (gx.same sb) x rv) (.cons (Rep.mono (gx.same sb) y ru) .nil))⟩
theorem src_zipT {g : G} {P : Hp → Hp → Prop} {p q : Addr} {vs us : List V} {ds es : List D} (h : ∀ F H, P F H → (SqT X.K H p vs ∧ Reps g F vs ds) ∧ SqT X.K H q us ∧ Reps g F us es) : SrcOK g (RZ.ItzT X.K p q) P (zipD ds es) := fun F H hp sb i => by
  obtain ⟨⟨h1, r1⟩, h2, r2⟩ := h F H hp
  refine ⟨fun d ed => ?_, fun hz => ⟨vs, us, h1, h2, ?_⟩⟩
  · obtain ⟨x, y, ex, ey, rfl⟩ := zipD_get ed
    obtain ⟨v, ev, rv⟩ := r1.get ex
    obtain ⟨u, eu, ru⟩ := r2.get ey
    refine ⟨⟨vs, us, v, u, h1, h2, ev, eu⟩, fun z H' yy => ?_⟩
    obtain ⟨T, x', y', rfl, hT, rfl, q1, q2⟩ := yy
    have e1 := q1 vs h1
    rw [ev] at e1
    cases Option.some.inj e1
    have e2 := q2 us h2
    rw [eu] at e2
    cases Option.some.inj e2
    exact ⟨_, pair_rep sb hT rv ru⟩
  · rw [zipD_len] at hz
    rw [r1.length, r2.length]
    omega
theorem src_zipL {g : G} {P : Hp → Hp → Prop} {p q : Addr} {vs us : List V} {ds es : List D} (h : ∀ F H, P F H → (SqL X.K H p vs ∧ Reps g F vs ds) ∧ SqL X.K H q us ∧ Reps g F us es) : SrcOK g (Itz X.K p q) P (zipD ds es) := fun F H hp sb i => by
  obtain ⟨⟨h1, r1⟩, h2, r2⟩ := h F H hp
  refine ⟨fun d ed => ?_, fun hz => ⟨vs, us, h1, h2, ?_⟩⟩
  · obtain ⟨x, y, ex, ey, rfl⟩ := zipD_get ed
    obtain ⟨v, ev, rv⟩ := r1.get ex
    obtain ⟨u, eu, ru⟩ := r2.get ey
    refine ⟨⟨vs, us, v, u, h1, h2, ev, eu⟩, fun z H' yy => ?_⟩
    obtain ⟨T, x', y', rfl, hT, rfl, q1, q2⟩ := yy
    have e1 := q1 vs h1
    rw [ev] at e1
    cases Option.some.inj e1
    have e2 := q2 us h2
    rw [eu] at e2
    cases Option.some.inj e2
    exact ⟨_, pair_rep sb hT rv ru⟩
  · rw [zipD_len] at hz
    rw [r1.length, r2.length]
    omega
theorem src_zipM {g : G} {P : Hp → Hp → Prop} {p q : Addr} {vs us : List V} {ds es : List D} (h : ∀ F H, P F H → (SqL X.K H p vs ∧ Reps g F vs ds) ∧ SqT X.K H q us ∧ Reps g F us es) : SrcOK g (ItM X.K p q) P (zipD ds es) := fun F H hp sb i => by
  obtain ⟨⟨h1, r1⟩, h2, r2⟩ := h F H hp
  refine ⟨fun d ed => ?_, fun hz => ⟨vs, us, ⟨h1, h2⟩, ?_⟩⟩
  · obtain ⟨x, y, ex, ey, rfl⟩ := zipD_get ed
    obtain ⟨v, ev, rv⟩ := r1.get ex
    obtain ⟨u, eu, ru⟩ := r2.get ey
    refine ⟨⟨vs, us, v, u, ⟨h1, ev⟩, h2, eu⟩, fun z H' yy => ?_⟩
    obtain ⟨T, x', y', ⟨rfl, hT⟩, rfl, q1, q2⟩ := yy
    have e1 := q1 vs h1
    rw [ev] at e1
    cases Option.some.inj e1
    have e2 := q2 us h2
    rw [eu] at e2
    cases Option.some.inj e2
    exact ⟨_, pair_rep sb hT rv ru⟩
  · rw [zipD_len] at hz
    rw [r1.length, r2.length]
    omega
/-- what stands frozen behind two values -/
theorem zip_two {g : G} {F : Hp} {v u : V} {s t : SV} {fp fq : List Addr} {H : Hp} {xs : List D} (ov : OwnS g F H v s fp) (ou : OwnS g F H u t fq) (h : zipS s t = some xs) :
    (∃ ds es, xs = zipD ds es ∧ Rep g F v (.tup ds) ∧ Rep g F u (.tup es)) ∨ (∃ ds es, xs = zipD ds es ∧ Rep g F v (.lst ds) ∧ Rep g F u (.lst es)) ∨ ∃ ds es, xs = zipD ds es ∧ Rep g F v (.lst ds) ∧ Rep g F u (.tup es) := by
  unfold zipS at h
  split at h
  · exact .inl ⟨_, _, (Option.some.inj h).symm, own_fz ov, own_fz ou⟩
  · exact .inr (.inl ⟨_, _, (Option.some.inj h).symm, own_fz ov, own_fz ou⟩)
  · exact .inr (.inr ⟨_, _, (Option.some.inj h).symm, own_fz ov, own_fz ou⟩)
  · cases h
theorem zip_evb {Φ : Phi} {a b : E} {ρ : Env} : (ev Φ a ρ >>= fun s => ev Φ b ρ >>= fun t => R.of (zipS s t)) = (evb Φ [a, b] ρ >>= fun ss => match ss with | [s, t] => R.of (zipS s t) | _ => R.bad) := by
  rw [evb, evb, evb]
  cases ev Φ a ρ with
  | ok s => cases ev Φ b ρ <;> rfl
  | exc c => rfl
  | bad => rfl
theorem zip_core {R : L2.It → Hp → Prop} {tel : List Expr} {kk : Nat} {tp p : Pos} {e1 e2 : Expr} (ok : Okx c W X) (hn : ("zip" : Str) ∈ c.g.p.bis) (hg : c.sc.names.lookup ("zip" : Str) = some .globalImplicit) (ha : okH e1 = true) (hb : okH e2 = true)
    (key : WA X [e1, e2] σ H (fun vs H1 => ∃ a b xs ys, vs = [.ref a, .ref b] ∧ (((SqL X.K H1 a xs ∧ SqL X.K H1 b ys ∧ R (Itz X.K a b) H1) ∨ (SqT X.K H1 a xs ∧ SqT X.K H1 b ys ∧ R (RZ.ItzT X.K a b) H1)) ∨ (SqL X.K H1 a xs ∧ SqT X.K H1 b ys) ∧ R (ItM X.K a b) H1))) :
    WI X (.Tuple tel kk tp) (.Call (.Name "zip" p) [e1, e2] [] pos) σ H R := by
  have hgl : Gl X "zip" := by show X.env.scope.names.lookup _ = _; rw [ok.sc]; exact hg
  have hmg : X.mg "zip" = none := by rw [ok.mg]; exact ok.lib.bi _ hn
  have s1 := okH_star ha [e2] X.env
  have s2 : (backTo pos (starEach [e2] X.env)).any (·.1) = false := any_star fun x hx => by
    cases List.mem_singleton.mp hx
    exact hb
  exact wi_of (pi_zip3 hgl hmg pa_wa s1 s2) key
theorem si_zip {e1 e2 : Expr} {a b : E} {tel : List Expr} {kk : Nat} {tp p : Pos} (hn : ("zip" : Str) ∈ c.g.p.bis) (hg : c.sc.names.lookup ("zip" : Str) = some .globalImplicit) (ha : okH e1 = true) (hb : okH e2 = true) (h : SB c [e1, e2] [a, b]) : SI c (.Tuple tel kk tp) (.Call (.Name "zip" p) [e1, e2] [] pos) (.zip a b) := fun W X ok F H ρ σ RR sb en pr => by
  have pr : PRx c.g W σ (PI2 c.g RR) F H (evb c.Φ [a, b] ρ >>= fun ss => match ss with | [s, t] => R.of (zipS s t) | _ => R.bad) := by
    rw [← zip_evb]
    unfold evi at pr
    exact pr
  refine zip_core ok hn hg ha hb ?_
  refine h.go ok sb en PI2.mono pr fun ss vs F' H' x r pr => ?_
  cases r with
  | nil => exact pr.elim
  | cons o1 r => cases r with
    | nil => exact pr.elim
    | cons o2 r => cases r with
      | cons => exact pr.elim
      | nil =>
        obtain ⟨xs, ex, q⟩ := PRx.of1 pr
        rcases zip_two o1 o2 ex with ⟨ds, es, rfl, r1, r2⟩ | ⟨ds, es, rfl, r1, r2⟩ | ⟨ds, es, rfl, r1, r2⟩
        · cases r1 with
          | tup h1 z1 q1 => cases r2 with
            | tup h2 z2 q2 =>
              refine ⟨_, _, _, _, rfl, .inl (.inr ⟨by rw [ok.K]; exact x.sub.sqT (g := c.g) h1, by rw [ok.K]; exact x.sub.sqT (g := c.g) h2, q _ F' H' (Grow.refl x.sub) (by rw [zipD_len, ← q1.length]; omega) (src_zipT (X := X) fun F2 H2 y => ⟨⟨by rw [ok.K]; exact y.sub.sqT (g := c.g) (sqT_mono (y.same x.sub) h1), Reps.mono (y.same x.sub) _ q1⟩, by rw [ok.K]; exact y.sub.sqT (g := c.g) (sqT_mono (y.same x.sub) h2), Reps.mono (y.same x.sub) _ q2⟩)⟩)⟩
        · cases r1 with
          | lst h1 z1 q1 => cases r2 with
            | lst h2 z2 q2 =>
              refine ⟨_, _, _, _, rfl, .inl (.inl ⟨.inl (.inl (x.sub.lst h1)), .inl (.inl (x.sub.lst h2)), q _ F' H' (Grow.refl x.sub) (by rw [zipD_len, ← q1.length]; omega) (src_zipL (X := X) fun F2 H2 y => ⟨⟨.inl (.inl (y.sub.lst (y.same x.sub _ _ h1))), Reps.mono (y.same x.sub) _ q1⟩, .inl (.inl (y.sub.lst (y.same x.sub _ _ h2))), Reps.mono (y.same x.sub) _ q2⟩)⟩)⟩
        · cases r1 with
          | lst h1 z1 q1 => cases r2 with
            | tup h2 z2 q2 =>
              refine ⟨_, _, _, _, rfl, .inr ⟨⟨.inl (.inl (x.sub.lst h1)), by rw [ok.K]; exact x.sub.sqT (g := c.g) h2⟩, q _ F' H' (Grow.refl x.sub) (by rw [zipD_len, ← q1.length]; omega) (src_zipM (X := X) fun F2 H2 y => ⟨⟨.inl (.inl (y.sub.lst (y.same x.sub _ _ h1))), Reps.mono (y.same x.sub) _ q1⟩, by rw [ok.K]; exact y.sub.sqT (g := c.g) (sqT_mono (y.same x.sub) h2), Reps.mono (y.same x.sub) _ q2⟩)⟩⟩
theorem sis_zip {e1 e2 : Expr} {a b : E} {tel : List Expr} {kk : Nat} {tp p : Pos} (hn : ("zip" : Str) ∈ c.g.p.bis) (hg : c.sc.names.lookup ("zip" : Str) = some .globalImplicit) (ha : okH e1 = true) (hb : okH e2 = true) (h : SB c [e1, e2] [a, b]) : SIs c (.Tuple tel kk tp) (.Call (.Name "zip" p) [e1, e2] [] pos) (.zip a b) := fun W X ok F H ρ σ RR sb en pr => by
  have pr : PRx c.g W σ (PI3 c.g RR) F H (evb c.Φ [a, b] ρ >>= fun ss => match ss with | [s, t] => R.of (zipS s t) | _ => R.bad) := by
    rw [← zip_evb]
    unfold evif at pr
    exact pr
  refine zip_core ok hn hg ha hb ?_
  refine h.go ok sb en PI3.mono pr fun ss vs F' H' x r pr => ?_
  cases r with
  | nil => exact pr.elim
  | cons o1 r => cases r with
    | nil => exact pr.elim
    | cons o2 r => cases r with
      | cons => exact pr.elim
      | nil =>
        obtain ⟨xs, ex, q⟩ := PRx.of1 pr
        rcases zip_two o1 o2 ex with ⟨ds, es, rfl, r1, r2⟩ | ⟨ds, es, rfl, r1, r2⟩ | ⟨ds, es, rfl, r1, r2⟩
        · cases r1 with
          | tup h1 z1 q1 => cases r2 with
            | tup h2 z2 q2 =>
              refine ⟨_, _, _, _, rfl, .inl (.inr ⟨by rw [ok.K]; exact x.sub.sqT (g := c.g) h1, by rw [ok.K]; exact x.sub.sqT (g := c.g) h2, q _ F' H' (Grow.refl x.sub) (by rw [zipD_len, ← q1.length]; omega) (src_zipT (X := X) fun F2 H2 y => ⟨⟨by rw [ok.K]; exact y.2.sqT (g := c.g) (sqT_mono y.1 h1), Reps.mono y.1 _ q1⟩, by rw [ok.K]; exact y.2.sqT (g := c.g) (sqT_mono y.1 h2), Reps.mono y.1 _ q2⟩)⟩)⟩
        · cases r1 with
          | lst h1 z1 q1 => cases r2 with
            | lst h2 z2 q2 =>
              refine ⟨_, _, _, _, rfl, .inl (.inl ⟨.inl (.inl (x.sub.lst h1)), .inl (.inl (x.sub.lst h2)), q _ F' H' (Grow.refl x.sub) (by rw [zipD_len, ← q1.length]; omega) (src_zipL (X := X) fun F2 H2 y => ⟨⟨.inl (.inl (y.2.lst (y.1 _ _ h1))), Reps.mono y.1 _ q1⟩, .inl (.inl (y.2.lst (y.1 _ _ h2))), Reps.mono y.1 _ q2⟩)⟩)⟩
        · cases r1 with
          | lst h1 z1 q1 => cases r2 with
            | tup h2 z2 q2 =>
              refine ⟨_, _, _, _, rfl, .inr ⟨⟨.inl (.inl (x.sub.lst h1)), by rw [ok.K]; exact x.sub.sqT (g := c.g) h2⟩, q _ F' H' (Grow.refl x.sub) (by rw [zipD_len, ← q1.length]; omega) (src_zipM (X := X) fun F2 H2 y => ⟨⟨.inl (.inl (y.2.lst (y.1 _ _ h1))), Reps.mono y.1 _ q1⟩, by rw [ok.K]; exact y.2.sqT (g := c.g) (sqT_mono y.1 h2), Reps.mono y.1 _ q2⟩)⟩⟩
end
end Pd

end
section
set_option linter.all false
set_option autoImplicit false
set_option Elab.async false
set_option maxRecDepth 100000
/-! Pd.Mt: l.index(x), l.count(x). -/
namespace Pd
open PySem PySem.Spec PyProof.Rows L2
mutual
theorem lay_py : ∀ (n : Nat) (d : D), plain n d = true → noS d = true → (py d).canLay0 = true
  | _, .non, _, _ => rfl
  | _, .bl _, _, _ => rfl
  | _, .int _, _, _ => rfl
  | _, .str _, _, s => by simp [noS] at s
  | 0, .lst _, h, _ => by simp [plain] at h
  | n + 1, .lst xs, h, s => lays_py n xs (by simpa [plain] using h) (by simpa [noS] using s)
  | 0, .tup _, h, _ => by simp [plain] at h
  | n + 1, .tup xs, h, s => lays_py n xs (by simpa [plain] using h) (by simpa [noS] using s)
  | _, .dct _ _, h, _ => by simp [plain] at h
  | _, .ins _ _ _, h, _ => by simp [plain] at h
  | _, .scr _, h, _ => by simp [plain] at h
theorem lays_py : ∀ (n : Nat) (ds : List D), plains n ds = true → noSs ds = true → PyData.canLayAll0 (pys ds) = true
  | _, [], _, _ => rfl
  | n, d :: ds, h, s => by
    have h' : plain n d = true ∧ plains n ds = true := by simpa [plains] using h
    have s' : noS d = true ∧ noSs ds = true := by simpa [noSs] using s
    show (PyData.canLay0 (py d) && PyData.canLayAll0 (pys ds)) = true
    rw [lay_py n d h'.1 s'.1, lays_py n ds h'.2 s'.2]
    rfl
end
theorem posK_get {k : D} : ∀ {xs : List D} {j : Nat}, posK k xs = some j → (∃ y, xs[j]? = some y ∧ eqD y k = true) ∧ ∀ (m : Nat) (z : D), m < j → xs[m]? = some z → eqD z k = false
  | [], j, h => by simp [posK] at h
  | x :: xs, j, h => by
    unfold posK at h
    split at h
    · rename_i c
      cases Option.some.inj h
      exact ⟨⟨x, rfl, c⟩, fun m z hm => absurd hm (by omega)⟩
    · rename_i c
      obtain ⟨i, hi, rfl⟩ := Option.map_eq_some_iff.mp h
      obtain ⟨⟨y, h1, h2⟩, h3⟩ := posK_get hi
      refine ⟨⟨y, h1, h2⟩, fun m z hm hz => ?_⟩
      cases m with
      | zero =>
        simp at hz
        subst hz
        simpa using c
      | succ m => exact h3 m z (by omega) (by simpa using hz)
theorem plains_get : ∀ {n : Nat} {xs : List D} {i : Nat} {d : D}, plains n xs = true → xs[i]? = some d → plain n d = true
  | n, [], i, d, _, h => by simp at h
  | n, x :: xs, 0, d, p, h => by
    simp at h
    subst h
    exact (by simpa [plains] using p : plain n x = true ∧ plains n xs = true).1
  | n, x :: xs, i + 1, d, p, h => plains_get (by simpa [plains] using p : plain n x = true ∧ plains n xs = true).2 (by simpa using h)
theorem list_view {a : SV} {xs : List D} (h : a.list? = some xs) : a.view = .lst xs := by
  unfold SV.list? at h
  split at h
  · cases Option.some.inj h; rfl
  · cases Option.some.inj h; rfl
  · cases h
theorem list_ownG {g : G} {F H : Hp} {v : V} {a : SV} {fp : List Addr} {xs : List D} (sb : Sub F H) (h : a.list? = some xs) (o : OwnS g F H v a fp) : ∃ p vs, v = .ref p ∧ H p = some (.lst vs) ∧ vs.length ≤ sizeLine ∧ Reps g F vs xs := by
  unfold SV.list? at h
  split at h
  · cases Option.some.inj h
    have r := own_fz o
    cases r with
    | lst h1 h2 h3 => exact ⟨_, _, rfl, sb.lst h1, h2, h3⟩
  · cases Option.some.inj h
    obtain ⟨p, vs, e1, _, e3, hz, r⟩ := o
    exact ⟨p, vs, e1, e3, hz, r⟩
  · cases h
/-- l.count(x), data of any depth -/
def rCntD (K : PySem.W.Frag) : V → List V → Hp → VK → Prop := fun x xs H Q => ∃ (p : Addr) (y : V) (d : PyData) (ds : List PyData), x = .ref p ∧ xs = [y] ∧ Dp K H (V.ref p) (.list ds) ∧ Dp K H y d ∧ PyData.plainAll ds = true ∧ d.plain = true ∧ d.depth ≤ 64 ∧ Q (.int ((ds.countP fun z => PyData.eqv z d : Nat) : Int)) H
theorem mt_cntD {X : Cx} (hu : X.A.units + 65 < cLine) : MtR X "list.count" (rCntD X.K) := by
  intro pins s σ H x xs v us Q I rx rxs h
  obtain ⟨p, y, d, ds, rfl, rfl, hl, hy, p1, p2, p3, q⟩ := h
  cases rx
  cases rxs with
  | cons ry rt =>
    cases rt
    obtain ⟨bs, r1⟩ := Dp.reads I d y _ hy ry
    cases hl with
    | lst hs ha =>
      obtain ⟨its, rv, ⟨ob, n, ho, hc, hdn, hdt⟩, hlen⟩ := I.list hs
      obtain ⟨as, h4⟩ := Dp.readsAll I ds _ its ha rv
      exact SeqAt.count_list_data (vs := its.toArray) ⟨ob, ho, hc, n, hdt⟩ (show ReadsAll s.heap its.toArray.toList ds as from h4) r1 p1 p2 (by have := Nat.min_le_right (PyData.depthAll ds) d.depth; omega) ⟨.int _, H, I.tok _, ⟨_, rfl⟩, q⟩
section
variable {c : Cc} {W : WX} {X : Cx} {F H : Hp} {σ : L2.St} {ρ : Env} {pos apos cpos : Pos} {a o : Expr} {e f : E}
theorem few1 {X : Cx} (ha : okH a = true) : ((backTo cpos (starEach [a] X.env)).all (fun x => !x.1) && (backToKw cpos (keywordEach [] X.env)).all (fun x => x.1.isSome)
      && decide (([a] : List Expr).length + ([] : List Keyword).length + (if ([] : List Keyword).isEmpty then 0 else 1) < 30)) = true := by rw [okH_star ha [] X.env]; rfl
theorem ev_mt1 {Φ : Phi} {m : Mt} : ev Φ (.mt m e [f]) ρ = (ev Φ e ρ >>= fun x => if mtOk m x then (ev Φ f ρ >>= fun y => R.of (fr f y) >>= fun d => R.of (mtS m x [d])) else .bad) := by
  rw [ev]
  congr 1
  funext x
  rw [evs, evs]
  cases mtOk m x with
  | false => rfl
  | true =>
    simp only [if_true]
    cases ev Φ f ρ with
    | ok y =>
      simp only [R.ok_bind]
      cases fr f y <;> rfl
    | exc c => rfl
    | bad => rfl
/-- the list, and then the argument -/
theorem mt_go {m : Mt} {Q : VK} {r : V → List V → Hp → VK → Prop} (hm : m = .count ∨ m = .index) (ok : Okx c W X) (sb : Sub F H) (en : EnvE c.g F H ρ σ) (h1 : SE c o e) (h2 : SE c a f) (pr : PRx c.g W σ (PV c.g true Q) F H (ev c.Φ (.mt m e [f]) ρ))
    (k : ∀ (s : SV) (xs : List D) (d : D) (z : SV) (p : Addr) (v2 : V) (F3 H3 : Hp) (fp : List Addr), s.list? = some xs → Sub F3 H3 → OwnS c.g F3 H3 (.ref p) s fp → Rep c.g F3 v2 d → mtS m s [d] = some z → PoE c.g F3 H3 true Q z → r (.ref p) [v2] H3 Q) :
    tBM X.K "list" r (WE X o) (tCons (WE X a) tNil) σ H Q := by
  rw [ev_mt1] at pr
  refine h1.go ok sb en pr fun s v F1 H1 fp x o1 n f1 nd pr => ?_
  cases hk : mtOk m s with
  | false => rw [hk, if_neg (by decide)] at pr; exact pr.elim
  | true =>
    rw [hk, if_pos rfl] at pr
    have : s.list?.isSome = true := by rcases hm with rfl | rfl <;> exact hk
    obtain ⟨xs, exs⟩ := Option.isSome_iff_exists.mp this
    obtain ⟨p, vs, rfl, hH, hz, hr⟩ := list_ownG x.sub exs o1
    refine ⟨.inl ⟨rfl, vs, .inl (.inl hH)⟩, ?_⟩
    refine h2.go ok x.sub (en.grow sb x) (PRx.grow PV.mono x pr) fun s2 v2 F2 H2 fp2 x2 o2 n2 f2 nd2 pr => ?_
    obtain ⟨d, ed, pr⟩ := PRx.of pr
    obtain ⟨z, ez, q⟩ := PRx.of1 pr
    obtain ⟨F3, x3, r3⟩ := keep_fr x.sub x2 o2 n2 f2 ed
    exact k s xs d z p v2 F3 H2 fp exs x3.sub (o1.grow x.sub x3) r3 ez (PoE.grow x3 q)
theorem se_index (h1 : SE c o e) (ho : okH o = true) (h2 : SE c a f) (ha : okH a = true) (hl : (apos.endLine == cpos.line) = true) : SE c (.Call (.Attribute o "index" apos) [a] [] cpos) (.mt .index e [f]) := fun W X ok F H ρ σ Q sb en pr => by
  have hs := okH_star ha [] X.env
  have hun := ok.std.un
  refine we_of (pe_bm PySem.F.plainAttrs_list PySem.F.slot_list_index PySem.F.type_list_index (mt_indexD (by omega)) pe_we (pa_cons pe_we pa_nil hs) (okH_base ho _ _ _) (few1 ha) hl hs rfl) ?_
  refine mt_go (.inr rfl) ok sb en h1 h2 pr fun s xs d z p v2 F3 H3 fp exs sb3 o3 r3 ez q => ?_
  unfold mtS at ez
  simp only [exs] at ez
  split at ez
  · rename_i cc
    simp only [Bool.and_eq_true] at cc
    obtain ⟨⟨⟨c1, c2⟩, c3⟩, c4⟩ := cc
    split at ez
    · rename_i j hj
      cases Option.some.inj ez
      rw [list_view exs] at c1 c3
      have c1' : plains 59 xs = true := by simpa [plain] using c1
      have c3' : noSs xs = true := by simpa [noS] using c3
      obtain ⟨⟨y, g1, g2⟩, g3⟩ := posK_get hj
      have dpl := own_view sb3 (list_view exs) c1 o3
      refine ⟨p, v2, py d, pys xs, j, py y, rfl, rfl, by rw [ok.K]; exact dpl, by rw [ok.K]; exact Rep.dp sb3 60 d v2 c2 r3, ?_, ?_, ?_, ?_, ?_, ?_⟩
      · have a1 := lays_py 59 xs c1' c3'
        have a2 := (plain_py 60 (.lst xs) c1).2
        exact Bool.and_eq_true_iff.mpr ⟨a1, decide_eq_true (Nat.le_trans a2 (by decide))⟩
      · have a1 := lay_py 60 d c2 c4
        have a2 := (plain_py 60 d c2).2
        exact Bool.and_eq_true_iff.mpr ⟨a1, decide_eq_true (Nat.le_trans a2 (by decide))⟩
      · rw [pys_map, List.getElem?_map, g1]; rfl
      · rw [eqD_py 59 60 _ _ (plains_get c1' g1) c2]; exact g2
      · intro m z' hm hz'
        rw [pys_map, List.getElem?_map] at hz'
        obtain ⟨w, hw, rfl⟩ := Option.map_eq_some_iff.mp hz'
        rw [eqD_py 59 60 _ _ (plains_get c1' hw) c2]
        exact g3 m w hm hw
      · exact q.pure sb3 (.int _)
    · cases ez
  · cases ez
theorem cnt_py {n m : Nat} {d : D} (hd : plain m d = true) : ∀ {xs : List D}, plains n xs = true → (pys xs).countP (fun z => PyData.eqv z (py d)) = xs.countP fun y => eqD y d
  | [], _ => rfl
  | x :: xs, h => by
    have h' : plain n x = true ∧ plains n xs = true := by simpa [plains] using h
    show (py x :: pys xs).countP _ = _
    rw [List.countP_cons, List.countP_cons, cnt_py hd h'.2, eqD_py n m _ _ h'.1 hd]
theorem se_count (h1 : SE c o e) (ho : okH o = true) (h2 : SE c a f) (ha : okH a = true) (hl : (apos.endLine == cpos.line) = true) : SE c (.Call (.Attribute o "count" apos) [a] [] cpos) (.mt .count e [f]) := fun W X ok F H ρ σ Q sb en pr => by
  have hs := okH_star ha [] X.env
  have hun := ok.std.un
  refine we_of (pe_bm PySem.F.plainAttrs_list PySem.F.slot_list_count PySem.F.type_list_count (mt_cntD (by omega)) pe_we (pa_cons pe_we pa_nil hs) (okH_base ho _ _ _) (few1 ha) hl hs rfl) ?_
  refine mt_go (.inl rfl) ok sb en h1 h2 pr fun s xs d z p v2 F3 H3 fp exs sb3 o3 r3 ez q => ?_
  unfold mtS at ez
  simp only [exs] at ez
  split at ez
  · rename_i cc
    obtain ⟨c1, c2⟩ := Bool.and_eq_true_iff.mp cc
    cases Option.some.inj ez
    rw [list_view exs] at c1
    have c1' : plains 59 xs = true := by simpa [plain] using c1
    have dpl := own_view sb3 (list_view exs) c1 o3
    obtain ⟨q1, d1⟩ := plain_py 60 d c2
    obtain ⟨q2, d2⟩ := plains_py 59 xs c1'
    refine ⟨p, v2, py d, pys xs, rfl, rfl, by rw [ok.K]; exact dpl, by rw [ok.K]; exact Rep.dp sb3 60 d v2 c2 r3, q2, q1, by omega, ?_⟩
    rw [cnt_py c2 c1']
    exact q.pure sb3 (.int _)
  · cases ez
end
end Pd

end
section
set_option linter.all false
set_option autoImplicit false
set_option Elab.async false
set_option maxRecDepth 100000
/-! Pd.Rng: list(range(..)), tuple(range(..)). -/
namespace Pd
open PySem PySem.Spec PyProof.Rows L2
theorem reps_mk {g : G} {F : Hp} {f : Nat → V} {h : Nat → D} (r : ∀ i, Rep g F (f i) (h i)) : ∀ l : List Nat, Reps g F (l.map f) (l.map h)
  | [] => .nil
  | i :: l => .cons (r i) (reps_mk r l)
theorem reps_rg {g : G} {F : Hp} (i j : Int) : Reps g F (rgV i j) (rngD i (j - i).toNat) := reps_mk (fun k => .int _) _
theorem rg_ok {i j : Int} (h1 : okR i = true) (h2 : okR j = true) (h3 : j - i ≤ lim) : RgOk i j := by
  obtain ⟨a1, a2⟩ := okR_of h1
  obtain ⟨b1, b2⟩ := okR_of h2
  exact ⟨a1, a2, b1, b2, by unfold lim at h3; omega⟩
section
variable {c : Cc} {W : WX} {X : Cx} {F H : Hp} {σ : L2.St} {ρ : Env} {pos pos2 p p2 : Pos} {a b : Expr} {e f : E}
theorem ev_rg1 {Φ : Phi} {β : Type} {k : List D → R β} : (evs Φ [e] ρ >>= fun ds => R.of (rngS ds) >>= k) = (ev Φ e ρ >>= fun s => R.of (fr e s) >>= fun d => R.of (rngS [d]) >>= k) := by
  rw [evs, evs]
  cases ev Φ e ρ with
  | ok y =>
    simp only [R.ok_bind]
    cases fr e y <;> rfl
  | exc c => rfl
  | bad => rfl
theorem ev_rg2 {Φ : Phi} {β : Type} {k : List D → R β} : (evs Φ [e, f] ρ >>= fun ds => R.of (rngS ds) >>= k) = (ev Φ e ρ >>= fun s => R.of (fr e s) >>= fun d => ev Φ f ρ >>= fun s2 => R.of (fr f s2) >>= fun d2 => R.of (rngS [d, d2]) >>= k) := by
  rw [evs, evs, evs]
  cases ev Φ e ρ with
  | ok y =>
    simp only [R.ok_bind]
    cases fr e y with
    | none => rfl
    | some d =>
      simp only [R.of_some, R.ok_bind]
      cases ev Φ f ρ with
      | ok y =>
        simp only [R.ok_bind]
        cases fr f y <;> rfl
      | exc c => rfl
      | bad => rfl
  | exc c => rfl
  | bad => rfl
theorem rng_one {d : D} {xs : List D} (h : rngS [d] = some xs) : ∃ j, d = .int j ∧ RgOk 0 j ∧ xs = rngD 0 j.toNat := by
  rcases rngS_inv h with ⟨j, e1, c1, c2, rfl⟩ | ⟨i, j, e1, _⟩ | ⟨i, j, e1, _⟩
  · cases e1
    exact ⟨j, rfl, rg_ok (by decide) c1 (by omega), rfl⟩
  · simp at e1
  · simp at e1
theorem rng_two {d d2 : D} {xs : List D} (h : rngS [d, d2] = some xs) : ∃ i j, d = .int i ∧ d2 = .int j ∧ RgOk i j ∧ xs = rngD i (j - i).toNat := by
  rcases rngS_inv h with ⟨j, e1, _⟩ | ⟨i, j, e1, c1, c2, c3, rfl⟩ | ⟨i, j, e1, _⟩
  · simp at e1
  · cases e1
    exact ⟨i, j, rfl, rfl, rg_ok c1 c2 c3, rfl⟩
  · simp at e1
/-- the bounds, and then what is made of them -/
theorem rg1_go {β : Type} {Qr : Int → Int → Hp → Prop} {P : Hp → Hp → β → Prop} {k : List D → R β} (ok : Okx c W X) (sb : Sub F H) (en : EnvE c.g F H ρ σ) (mo : Mono P) (h1 : SE c a e) (pr : PRx c.g W σ P F H (evs c.Φ [e] ρ >>= fun ds => R.of (rngS ds) >>= k))
    (q : ∀ i j F' H', Sub F' H' → RgOk i j → PRx c.g W σ P F' H' (k (rngD i (j - i).toNat)) → Qr i j H') : tRg1 (WE X a) σ H Qr := by
  rw [ev_rg1] at pr
  refine h1.go ok sb en pr fun s v F1 H1 fp x o1 n f1 nd pr => ?_
  obtain ⟨d, ed, pr⟩ := PRx.of pr
  obtain ⟨xs, ex, pr⟩ := PRx.of pr
  obtain ⟨F3, x3, r3⟩ := keep_fr sb x o1 n f1 ed
  obtain ⟨j, rfl, ho, rfl⟩ := rng_one ex
  cases r3
  exact ⟨j, rfl, q 0 j F3 H1 x3.sub ho (by rw [Int.sub_zero]; exact PRx.grow mo x3 pr)⟩
theorem rg2_go {β : Type} {Qr : Int → Int → Hp → Prop} {P : Hp → Hp → β → Prop} {k : List D → R β} (ok : Okx c W X) (sb : Sub F H) (en : EnvE c.g F H ρ σ) (mo : Mono P) (h1 : SE c a e) (h2 : SE c b f) (pr : PRx c.g W σ P F H (evs c.Φ [e, f] ρ >>= fun ds => R.of (rngS ds) >>= k))
    (q : ∀ i j F' H', Sub F' H' → RgOk i j → PRx c.g W σ P F' H' (k (rngD i (j - i).toNat)) → Qr i j H') : tRg2 (WE X a) (WE X b) σ H Qr := by
  rw [ev_rg2] at pr
  refine h1.go ok sb en pr fun s v F1 H1 fp x o1 n f1 nd pr => ?_
  obtain ⟨d, ed, pr⟩ := PRx.of pr
  obtain ⟨F3, x3, r3⟩ := keep_fr sb x o1 n f1 ed
  refine h2.go ok x3.sub (en.grow sb x3) (PRx.grow mo x3 pr) fun s2 v2 F4 H4 fp2 x4 o4 n4 f4 nd4 pr => ?_
  obtain ⟨d2, ed2, pr⟩ := PRx.of pr
  obtain ⟨xs, ex, pr⟩ := PRx.of pr
  obtain ⟨F5, x5, r5⟩ := keep_fr x3.sub x4 o4 n4 f4 ed2
  obtain ⟨i, j, rfl, rfl, ho, rfl⟩ := rng_two ex
  cases r3
  cases r5
  exact ⟨i, j, rfl, rfl, q i j F5 H4 x5.sub ho (PRx.grow mo x5 pr)⟩
theorem se_lrng1 (hn : ("list" : Str) ∈ c.g.p.bis) (hg : c.sc.names.lookup ("list" : Str) = some .globalImplicit) (hn2 : ("range" : Str) ∈ c.g.p.bis) (hg2 : c.sc.names.lookup ("range" : Str) = some .globalImplicit) (ha : okH a = true) (h1 : SE c a e) :
    SE c (.Call (.Name "list" p) [.Call (.Name "range" p2) [a] [] pos2] [] pos) (.bi .lrng [e]) := fun W X ok F H ρ σ Q sb en pr => by
  have hgl : Gl X "list" := by show X.env.scope.names.lookup _ = _; rw [ok.sc]; exact hg
  have hgr : Gl X "range" := by show X.env.scope.names.lookup _ = _; rw [ok.sc]; exact hg2
  refine we_of (pe_listRg ok.calm hgl (by rw [ok.mg]; exact ok.lib.bi _ hn) (prg_1 hgr (by rw [ok.mg]; exact ok.lib.bi _ hn2) pe_we (okH_star ha [] X.env)) rfl) ?_
  have pr : PRx c.g W σ (PV c.g true Q) F H (evs c.Φ [e] ρ >>= fun ds => R.of (rngS ds) >>= fun xs => .ok (oL xs)) := by unfold ev at pr; exact pr
  refine rg1_go ok sb en PV.mono h1 pr fun i j F' H' sb' ho pr => ⟨ho, fun q hq => ?_⟩
  exact PoE.newL pr sb' hq (reps_rg i j) (by rw [rgV_length, sizeLine_eq]; have := ho.2.2.2.2; omega)
theorem se_lrng2 (hn : ("list" : Str) ∈ c.g.p.bis) (hg : c.sc.names.lookup ("list" : Str) = some .globalImplicit) (hn2 : ("range" : Str) ∈ c.g.p.bis) (hg2 : c.sc.names.lookup ("range" : Str) = some .globalImplicit) (ha : okH a = true) (hb : okH b = true) (h1 : SE c a e) (h2 : SE c b f) :
    SE c (.Call (.Name "list" p) [.Call (.Name "range" p2) [a, b] [] pos2] [] pos) (.bi .lrng [e, f]) := fun W X ok F H ρ σ Q sb en pr => by
  have hgl : Gl X "list" := by show X.env.scope.names.lookup _ = _; rw [ok.sc]; exact hg
  have hgr : Gl X "range" := by show X.env.scope.names.lookup _ = _; rw [ok.sc]; exact hg2
  have s2 := okH_star hb [] X.env
  refine we_of (pe_listRg ok.calm hgl (by rw [ok.mg]; exact ok.lib.bi _ hn) (prg_2 hgr (by rw [ok.mg]; exact ok.lib.bi _ hn2) pe_we pe_we (okH_star ha [b] X.env) s2 (by rw [s2]; rfl)) rfl) ?_
  have pr : PRx c.g W σ (PV c.g true Q) F H (evs c.Φ [e, f] ρ >>= fun ds => R.of (rngS ds) >>= fun xs => .ok (oL xs)) := by unfold ev at pr; exact pr
  refine rg2_go ok sb en PV.mono h1 h2 pr fun i j F' H' sb' ho pr => ⟨ho, fun q hq => ?_⟩
  exact PoE.newL pr sb' hq (reps_rg i j) (by rw [rgV_length, sizeLine_eq]; have := ho.2.2.2.2; omega)
theorem se_trng2 (hn : ("tuple" : Str) ∈ c.g.p.bis) (hg : c.sc.names.lookup ("tuple" : Str) = some .globalImplicit) (hn2 : ("range" : Str) ∈ c.g.p.bis) (hg2 : c.sc.names.lookup ("range" : Str) = some .globalImplicit) (ha : okH a = true) (hb : okH b = true) (h1 : SE c a e) (h2 : SE c b f) :
    SE c (.Call (.Name "tuple" p) [.Call (.Name "range" p2) [a, b] [] pos2] [] pos) (.bi .trng [e, f]) := fun W X ok F H ρ σ Q sb en pr => by
  have hgl : Gl X "tuple" := by show X.env.scope.names.lookup _ = _; rw [ok.sc]; exact hg
  have hgr : Gl X "range" := by show X.env.scope.names.lookup _ = _; rw [ok.sc]; exact hg2
  have s2 := okH_star hb [] X.env
  refine we_of (pe_tupRg ok.calm hgl (by rw [ok.mg]; exact ok.lib.bi _ hn) (prg_2 hgr (by rw [ok.mg]; exact ok.lib.bi _ hn2) pe_we pe_we (okH_star ha [b] X.env) s2 (by rw [s2]; rfl)) rfl) ?_
  have pr : PRx c.g W σ (PV c.g true Q) F H (evs c.Φ [e, f] ρ >>= fun ds => R.of (rngS ds) >>= fun xs => .ok (fz (.tup xs))) := by unfold ev at pr; exact pr
  refine rg2_go ok sb en PV.mono h1 h2 pr fun i j F' H' sb' ho pr => ⟨ho, fun q hq => ?_⟩
  exact PoE.newT pr sb' hq (reps_rg i j) (by rw [rgV_length, sizeLine_eq]; have := ho.2.2.2.2; omega)
end
end Pd

end
section
set_option linter.all false
set_option autoImplicit false
set_option Elab.async false
set_option maxRecDepth 100000
/-! Pd.Enm: enumerate of a list, of a tuple. -/
namespace Pd
open PySem PySem.Spec PyProof.Rows L2
set_option maxHeartbeats 1000000 in
theorem meets_enm {v : Value} {o : Obj} {H : Heap → Prop} (B : Begins v o H) :
    Meets (Builtin.«enumerate.__new__» ⟨[.type "enumerate", v], []⟩) (fun _ R s => H s.heap ∧
      R (.ok (.ret (.ref (s.heap.push o).objs.size))) { s with heap := (s.heap.push o).push { cls := .type "enumerate", data := .fields #[.none, .bool false, .ref s.heap.objs.size, rawInt 0, .none, .none] } }) :=
  .of_wp fun prog w A R s h => by
    obtain ⟨hp, g, d, tk, os⟩ := s; obtain ⟨h1, h⟩ := h
    have hsub := sub_enumerate
    have q1 : ∀ {A' : Around} {E : Value → Shared → Prop} {Q : Value → Shared → Prop}, Q (.ref hp.objs.size) ⟨hp.push o, g, d, tk, os⟩ → wpAny (model prog w) A' (pyIter v) Q E ⟨hp, g, d, tk, os⟩ :=
      fun q => B.iter prog w _ _ ⟨hp, g, d, tk, os⟩ _ h1 q
    wp_walk using q1
    refine wpAny_stack_any fun st => wpAny_pure ?_
    split
    · rename_i c _ _ _ _ _
      cases (c == Value.type "enumerate")
      · wp_walk using q1
        exact ⟨_, rfl, h⟩
      · wp_walk using q1
        exact ⟨_, rfl, h⟩
    · wp_walk using q1
      exact ⟨_, rfl, h⟩
theorem call_enm {prog : Program} {w : World} {A : Around} {E : Value → Shared → Prop} {s : Shared} {v : Value} {o : Obj} {H : Heap → Prop} {Q : Value → Shared → Prop} (B : Begins v o H) (h1 : H s.heap)
    (h : ∀ h', IsEnum h' (s.heap.objs.size + 1) s.heap.objs.size 0 .none → h'.get? s.heap.objs.size = some o → h'.objs.size = s.heap.objs.size + 2 →
      (∀ b o, s.heap.get? b = some o → h'.get? b = some o) → Q (.ref (s.heap.objs.size + 1)) { s with heap := h' }) :
    wpAny (model prog w) A (call (.type "enumerate") [v]) Q E s := by
  refine callType_new F.called_enumerate (by decide) (F.typeCall_enumerate_1 _) (F.newCall_enumerate_1 _) (fun obj => F.args_object_init_2 obj _) F.entry_enumerate_new
    (meets_enm B) ⟨h1, ?_⟩
  have hz : (s.heap.push o).objs.size = s.heap.objs.size + 1 := Heap.size_push ..
  show _ ∧ _
  rw [hz]
  have he : IsEnum ((s.heap.push o).push { cls := .type "enumerate", data := .fields #[.none, .bool false, .ref s.heap.objs.size, rawInt 0, .none, .none] }) (s.heap.objs.size + 1) s.heap.objs.size 0 .none := by
    have := Heap.get?_push_size (s.heap.push o) (o := { cls := .type "enumerate", data := .fields #[.none, .bool false, .ref s.heap.objs.size, rawInt 0, .none, .none] }) rfl
    rw [hz] at this; exact this
  refine ⟨⟨_, he, rfl⟩, h _ he (Heap.get?_push_of_some _ (Heap.get?_push_size _ B.free)) (by rw [Heap.size_push, hz]) fun b o x => Heap.get?_push_of_some _ (Heap.get?_push_of_some _ x)⟩
/-- the tuple at a, each item in a new pair -/
def IteT (K : PySem.W.Frag) (a : Addr) : L2.It :=
  ⟨fun i H => ∃ (xs : List V) (x : V), SqT K H a xs ∧ xs[i]? = some x, fun i H v H' => ∃ T x, v = .ref T ∧ H T = none ∧ H' = upd H T (.tup [.int (i : Nat), x]) ∧ ∀ xs, SqT K H a xs → xs[i]? = some x, fun i H => ∃ xs : List V, SqT K H a xs ∧ xs.length ≤ i⟩
theorem turn_enumT {P : Program} {w : World} {K : PySem.W.Frag} {elts : List Expr} {kk : Nat} {tpos : Pos} (a e it : Addr) (hai : a ≠ it) (hea : e ≠ a) :
    Turn P w K (.Tuple elts kk tpos) (IteT K a) [e, it] e (fun i h => (∃ old, IsEnum h e it ((i : Nat) : Int) old) ∧ h.IsTupleIter it a i ∧ e ≠ it) where
  mem := by simp
  obj := fun i h st b hb => by
    obtain ⟨⟨old, he⟩, ⟨o, ho, hc, hd⟩, _⟩ := st
    have e' : b = e ∨ b = it := by simpa using hb
    rcases e' with z | z
    · rw [z]; exact ⟨_, he, fun v q => nomatch q⟩
    · rw [z]; exact ⟨o, ho, fun v q => by rw [hd] at q; cases q⟩
  keep := fun i h h' st k => let ⟨⟨old, he⟩, hi, hne⟩ := st; ⟨⟨old, k e (by simp) _ he⟩, hi.at fun o q => k it (by simp) o q, hne⟩
  item := by
    intro X hP hw hK hc i pins s σ H E I hf st hg
    subst hP hw hK
    obtain ⟨⟨old, he⟩, hit, hne⟩ := st
    obtain ⟨xs, x, hq, hx⟩ := hg
    obtain ⟨its, rv, p, hz⟩ := I.tuple hq
    obtain ⟨u, hu, ru⟩ := rv.get hx
    have hel : e < s.heap.objs.size := Heap.lt_size he
    have hil : it < s.heap.objs.size := by obtain ⟨_, q, _⟩ := hit; exact Heap.lt_size q
    have p' : s.heap.IsTuple a its.toArray := p
    have hlt : i < its.toArray.size := by
      obtain ⟨z, _⟩ := List.getElem?_eq_some_iff.mp hu
      simpa using z
    refine wpAny_pyNext_enum_itemD (Draws.tuple (show X.A.in1.handled = none from I.ok.hd hc) it a hai its.toArray) he ⟨hit, p'⟩ hlt hne (by simp [hne, hea]) fun x' h' tk hx' ho hst hT hsz hk => ?_
    obtain rfl : x' = u := by
      have z : its[i]? = some x' := by simpa using hx'
      rw [hu] at z
      exact (Option.some.inj z).symm
    refine ⟨_, rfl, wpAny_letOwnedTupleGo_enum (s := { s with heap := h', toks := tk + 1 }) ho fun h'' he' sb => ?_⟩
    have hT2 : h''.get? s.heap.objs.size = some { cls := .type "tuple", data := .seq #[.int i tk, x'] } := (sb.2 _ (Nat.ne_of_gt hel)).trans hT
    have new : ObjOk X.prog X.w (upd H s.heap.objs.size (.tup [.int (i : Nat), x])) h'' s.heap.objs.size (.tup [.int (i : Nat), x]) :=
      ⟨by show 2 ≤ sizeLine; decide, [.int i tk, x'], .cons ⟨_, rfl⟩ (.cons ru .nil), ⟨_, hT2, rfl, _, rfl⟩⟩
    have I1 : Inv X pins σ (upd H s.heap.objs.size (.tup [.int (i : Nat), x])) { s with heap := h'', toks := tk + 1 } :=
      I.turnedNew (ch := [e, it]) (fun b ob hb q => (sb.2 b (fun z => hb (by simp [z]))).trans (hk b ob (fun z => hb (by simp [z])) (fun z => hb (by simp [z])) q)) hf (Nat.le_refl _) new
    refine ⟨.ref s.heap.objs.size, _, I1, rfl, ⟨_, x, rfl, I.hok.fresh (Nat.le_refl _), rfl, fun ys hy => by rw [I.tuple_inj hy hq]; exact hx⟩, ⟨⟨x', ?_⟩, hst.1.at fun o q => (sb.2 it (Ne.symm hne)).trans q, hne⟩, fun b hb => ?_⟩
    · have e1 : ((i + 1 : Nat) : Int) = (i : Int) + 1 := by omega
      rw [e1]; exact he'
    · have hb' : b < s.heap.objs.size := by
        have e' : b = e ∨ b = it := by simpa using hb
        rcases e' with z | z
        · rw [z]; exact hel
        · rw [z]; exact hil
      rw [upd_ne (Nat.ne_of_lt hb')]
      exact (hf b hb).1
  done := by
    intro X hP hw hK hc i pins s σ H E I hf st hg
    subst hP hw hK
    obtain ⟨⟨old, he⟩, hit, hne⟩ := st
    obtain ⟨xs, hq, hx⟩ := hg
    obtain ⟨its, rv, p, hz⟩ := I.tuple hq
    obtain ⟨f0, f1, f2, f3, f4, f5⟩ := hf it (by simp)
    have hl := rv.length
    have p' : s.heap.IsTuple a its.toArray := p
    have hh : X.A.in1.handled = none := I.ok.hd hc
    have D : Draws X.prog X.w X.A.in1 it [it, a] i (fun _ _ => False) (fun j h => j = i ∧ h.IsTupleIter it a i ∧ h.IsTuple a its.toArray) :=
      { live := fun _ _ st => let ⟨o, ho, _⟩ := st.2.1; ⟨o, ho⟩
        frame := fun _ _ _ st hk => ⟨st.1, st.2.1.at fun o e => hk it (by simp) o e, st.2.2.at fun o e => hk a (by simp) o e⟩
        item := fun j s Q E hi st hQ => absurd st.1 (Nat.ne_of_lt hi)
        done := fun s Q E st hE => wpAny_nextOf_tuple_end hh st.2.1 st.2.2 (by simp; omega) hE }
    exact wpAny_pyNext_enum_endD D he ⟨rfl, hit, p'⟩ fun h' eb => ⟨rfl, I.turned (t' := s.toks) (fun b o hb q => eb b o hb q) f0 f1 f3 f4 f5⟩
  self := fun A i s Q E st h => let ⟨⟨_, he⟩, _⟩ := st; wpAny_pyIter_enum he h
/-! ### enumerate of a list or a tuple -/
def iEnm (K : PySem.W.Frag) (ta : TA) : TI := fun σ H R => ta σ H fun vs H1 => ∃ a xs, vs = [.ref a] ∧ ((SqL K H1 a xs ∧ R (Ite K a) H1) ∨ (SqT K H1 a xs ∧ R (IteT K a) H1))
theorem pi_enm {X : Cx} {e : Expr} {ta : TA} {p pos tpos : Pos} {elts : List Expr} {kk : Nat} (hg : Gl X "enumerate") (hm : X.mg "enumerate" = none) (ha : PA X [e] ta) (hs : starEach [e] X.env = [(false, eval e X.env)] := by rfl) :
    PI X (.Tuple elts kk tpos) (.Call (.Name "enumerate" p) [e] [] pos) (iEnm X.K ta) := by
  refine ⟨fun pins s σ H R I h => ?_⟩
  refine Call_ (ld_blt I hg hm boot_enumerate (PyProof.Rows.callWith_type1 (thn (ha.run pos pins s σ H _ I h) fun us s1 ⟨vs, H1, I1, r1, q1⟩ => ?_) hs rfl))
  obtain ⟨a, xs, ex, q1⟩ := q1
  subst ex
  cases r1 with
  | cons r rr =>
    cases rr
    cases r
    have fresh2 : ∀ b, b ∈ [s1.heap.objs.size + 1, s1.heap.objs.size] → FpOk X pins H1 b := fun b hb => by
      have e' : b = s1.heap.objs.size + 1 ∨ b = s1.heap.objs.size := by simpa using hb
      have hle : s1.heap.objs.size ≤ b := by
        rcases e' with z | z
        · rw [z]; exact Nat.le_add_right _ _
        · rw [z]; exact Nat.le_refl _
      exact I1.fpOk hle (I1.hok.fresh hle)
    rcases q1 with ⟨hq, q⟩ | ⟨hq, q⟩
    · obtain ⟨its, rv, p', hz⟩ := I1.list hq
      refine call_enumerate_list p'.isList fun h' he hit hsz hk => wpAny_pyIter_enum he ?_
      have I2 : Inv X pins σ H1 { s1 with heap := h' } := I1.kept (t' := s1.toks) hk
      exact ⟨s1.heap.objs.size + 1, [s1.heap.objs.size + 1, s1.heap.objs.size], _, _, H1, rfl, I2, turn_enum a (s1.heap.objs.size + 1) s1.heap.objs.size, ⟨⟨.none, he⟩, hit, Nat.succ_ne_self _⟩, fresh2, q⟩
    · obtain ⟨its, rv, p', hz⟩ := I1.tuple hq
      obtain ⟨o1, ho1, _⟩ := id p'
      have hal : a < s1.heap.objs.size := Heap.lt_size ho1
      refine call_enm (begins_tuple a its.toArray) (show s1.heap.IsTuple a its.toArray from p') fun h' he hit hsz hk => wpAny_pyIter_enum he ?_
      have I2 : Inv X pins σ H1 { s1 with heap := h' } := I1.kept (t' := s1.toks) hk
      exact ⟨s1.heap.objs.size + 1, [s1.heap.objs.size + 1, s1.heap.objs.size], _, _, H1, rfl, I2, turn_enumT a (s1.heap.objs.size + 1) s1.heap.objs.size (Nat.ne_of_lt hal) (Nat.ne_of_gt (Nat.lt_succ_of_lt hal)), ⟨⟨.none, he⟩, ⟨_, hit, rfl, rfl⟩, Nat.succ_ne_self _⟩, fresh2, q⟩
theorem enumD_get : ∀ {xs : List D} {n i : Nat} {d : D}, (enumD n xs)[i]? = some d → ∃ x, xs[i]? = some x ∧ d = .tup [.int ((n + i : Nat) : Int), x]
  | [], _, i, d, h => by simp [enumD] at h
  | x :: xs, n, 0, d, h => by
    simp [enumD] at h
    exact ⟨x, rfl, h.symm⟩
  | x :: xs, n, i + 1, d, h => by
    simp only [enumD, List.getElem?_cons_succ] at h ⊢
    obtain ⟨y, h1, h2⟩ := enumD_get h
    exact ⟨y, h1, by rw [h2, show n + (i + 1) = n + 1 + i by omega]⟩
theorem enumD_len : ∀ (xs : List D) (n : Nat), (enumD n xs).length = xs.length
  | [], n => by simp [enumD]
  | x :: xs, n => by simp [enumD, enumD_len xs]
section
variable {c : Cc} {W : WX} {X : Cx} {F H : Hp} {σ : L2.St} {ρ : Env} {pos : Pos}
theorem src_enmL {g : G} {P : Hp → Hp → Prop} {p : Addr} {vs : List V} {ds : List D} (h : ∀ F H, P F H → SqL X.K H p vs ∧ Reps g F vs ds) : SrcOK g (Ite X.K p) P (enumD 0 ds) := fun F H hp sb i => by
  obtain ⟨h1, r1⟩ := h F H hp
  refine ⟨fun d ed => ?_, fun hz => ⟨vs, h1, ?_⟩⟩
  · obtain ⟨x, ex, rfl⟩ := enumD_get ed
    obtain ⟨v, ev, rv⟩ := r1.get ex
    refine ⟨⟨vs, v, h1, ev⟩, fun z H' yy => ?_⟩
    obtain ⟨T, x', rfl, hT, rfl, q1⟩ := yy
    have e1 := q1 vs h1
    rw [ev] at e1
    cases Option.some.inj e1
    rw [show 0 + i = i from Nat.zero_add i]
    exact ⟨_, pair_rep sb hT (.int _) rv⟩
  · rw [enumD_len] at hz
    rw [r1.length]
    exact hz
theorem src_enmT {g : G} {P : Hp → Hp → Prop} {p : Addr} {vs : List V} {ds : List D} (h : ∀ F H, P F H → SqT X.K H p vs ∧ Reps g F vs ds) : SrcOK g (IteT X.K p) P (enumD 0 ds) := fun F H hp sb i => by
  obtain ⟨h1, r1⟩ := h F H hp
  refine ⟨fun d ed => ?_, fun hz => ⟨vs, h1, ?_⟩⟩
  · obtain ⟨x, ex, rfl⟩ := enumD_get ed
    obtain ⟨v, ev, rv⟩ := r1.get ex
    refine ⟨⟨vs, v, h1, ev⟩, fun z H' yy => ?_⟩
    obtain ⟨T, x', rfl, hT, rfl, q1⟩ := yy
    have e1 := q1 vs h1
    rw [ev] at e1
    cases Option.some.inj e1
    rw [show 0 + i = i from Nat.zero_add i]
    exact ⟨_, pair_rep sb hT (.int _) rv⟩
  · rw [enumD_len] at hz
    rw [r1.length]
    exact hz
theorem enm_core {R : L2.It → Hp → Prop} {tel : List Expr} {kk : Nat} {tp p : Pos} {e1 : Expr} (ok : Okx c W X) (hn : ("enumerate" : Str) ∈ c.g.p.bis) (hg : c.sc.names.lookup ("enumerate" : Str) = some .globalImplicit) (ha : okH e1 = true)
    (key : WE X e1 σ H (fun v H1 => ∃ a xs, [v] = [.ref a] ∧ ((SqL X.K H1 a xs ∧ R (Ite X.K a) H1) ∨ (SqT X.K H1 a xs ∧ R (IteT X.K a) H1)))) :
    WI X (.Tuple tel kk tp) (.Call (.Name "enumerate" p) [e1] [] pos) σ H R := by
  have hgl : Gl X "enumerate" := by show X.env.scope.names.lookup _ = _; rw [ok.sc]; exact hg
  have hmg : X.mg "enumerate" = none := by rw [ok.mg]; exact ok.lib.bi _ hn
  have s1 := okH_star ha [] X.env
  exact wi_of (pi_enm hgl hmg (pa_cons pe_we pa_nil s1) s1) key
theorem si_enm {e1 : Expr} {a : E} {tel : List Expr} {kk : Nat} {tp p : Pos} (hn : ("enumerate" : Str) ∈ c.g.p.bis) (hg : c.sc.names.lookup ("enumerate" : Str) = some .globalImplicit) (ha : okH e1 = true) (h : SE c e1 a) : SI c (.Tuple tel kk tp) (.Call (.Name "enumerate" p) [e1] [] pos) (.enm a) := fun W X ok F H ρ σ R sb en pr => by
  unfold evi at pr
  refine enm_core ok hn hg ha (h.go ok sb en pr fun s v F' H' fp x o n f nd pr => ?_)
  cases es : s.seq? with
  | none => rw [es] at pr; exact pr.elim
  | some xs =>
    rw [es] at pr
    have q : PI2 c.g R F H (enumD 0 xs) := pr
    have lists : ∀ {p : Addr} {vs : List V}, v = .ref p → H' p = some (.lst vs) → vs.length ≤ sizeLine → Reps c.g F' vs xs → ∃ a xs, [v] = [.ref a] ∧ ((SqL X.K H' a xs ∧ R (Ite X.K a) H') ∨ (SqT X.K H' a xs ∧ R (IteT X.K a) H')) := fun {p vs} ev h1 hz r => by
      subst ev
      exact ⟨_, _, rfl, .inl ⟨.inl (.inl h1), q _ F' H' x (by rw [enumD_len, ← r.length]; exact hz) (src_enmL fun F2 H2 y => ⟨.inl (.inl (y.sameH _ _ h1)), Reps.mono (y.same x.sub) xs r⟩)⟩⟩
    unfold SV.seq? at es
    split at es
    · cases Option.some.inj es
      have r := own_fz o
      cases r with
      | lst h1 h2 h3 => exact lists rfl (x.sub.lst h1) h2 h3
    · cases Option.some.inj es
      obtain ⟨p, vs, e1, _, e3, hz, r⟩ := o
      exact lists e1 e3 hz r
    · cases Option.some.inj es
      obtain ⟨p, vs, rfl, h1, hz, r, h2⟩ := own_tup x.sub o
      exact ⟨_, _, rfl, .inr ⟨by rw [ok.K]; exact h1, q _ F' H' x (by rw [enumD_len, ← r.length]; exact hz) (src_enmT fun F2 H2 y => ⟨by rw [ok.K]; exact y.sub.sqT (g := c.g) (sqT_mono (y.same x.sub) h2), Reps.mono (y.same x.sub) _ r⟩)⟩⟩
    · cases es
theorem sis_enm {e1 : Expr} {a : E} {tel : List Expr} {kk : Nat} {tp p : Pos} (hn : ("enumerate" : Str) ∈ c.g.p.bis) (hg : c.sc.names.lookup ("enumerate" : Str) = some .globalImplicit) (ha : okH e1 = true) (h : SE c e1 a) : SIs c (.Tuple tel kk tp) (.Call (.Name "enumerate" p) [e1] [] pos) (.enm a) := fun W X ok F H ρ σ R sb en pr => by
  unfold evif at pr
  refine enm_core ok hn hg ha (h.go ok sb en pr fun s v F' H' fp x o n f nd pr => ?_)
  obtain ⟨k, ek, pr2⟩ := PRx.of pr
  obtain ⟨rfl, ef⟩ := keepS_fr ek
  obtain ⟨F2, x2, r⟩ := keep_fr sb x o n f ef
  cases es : k.seq? with
  | none => rw [es] at pr2; exact pr2.elim
  | some xs =>
    rw [es] at pr2
    have q : PI3 c.g R F H (enumD 0 xs) := pr2
    have lists : ∀ {ds : List D}, k.view = .lst ds → ds = xs → ∃ a xs, [v] = [.ref a] ∧ ((SqL X.K H' a xs ∧ R (Ite X.K a) H') ∨ (SqT X.K H' a xs ∧ R (IteT X.K a) H')) := fun {ds} ev hd => by
      subst hd
      rw [ev] at r
      cases r with
      | lst h1 h2 h3 => exact ⟨_, _, rfl, .inl ⟨.inl (.inl (x2.sub.lst h1)), q _ F2 H' x2 (by rw [enumD_len, ← h3.length]; exact h2) (src_enmL fun F3 H3 y => ⟨.inl (.inl (y.2.lst (y.1 _ _ h1))), Reps.mono y.1 _ h3⟩)⟩⟩
    unfold SV.seq? at es
    split at es
    · cases Option.some.inj es
      exact lists rfl rfl
    · cases Option.some.inj es
      exact lists rfl rfl
    · cases Option.some.inj es
      have r : Rep c.g F2 v (.tup xs) := r
      cases r with
      | tup h1 h2 h3 => exact ⟨_, _, rfl, .inr ⟨by rw [ok.K]; exact x2.sub.sqT (g := c.g) h1, q _ F2 H' x2 (by rw [enumD_len, ← h3.length]; exact h2) (src_enmT fun F3 H3 y => ⟨by rw [ok.K]; exact y.2.sqT (g := c.g) (sqT_mono y.1 h1), Reps.mono y.1 _ h3⟩)⟩⟩
    · cases es
end
end Pd

end
section
set_option linter.all false
set_option autoImplicit false
set_option Elab.async false
set_option maxRecDepth 100000
/-! Pd.Chk: what is asked of a text. -/
namespace Pd
open PySem PySem.Spec PyProof.Rows L2

structure Ck where
  p : PrS
  N : List Str
  sc : Scope
  fnl : Str → Bool
def Ck.blk (k : Ck) (scope : Scope) : Ck := { k with sc := relS scope k.sc, fnl := fun x => scope.names.lookup x == some .cell }
def nmOk (x : Str) : Bool := !(x == ("__debug__" : Str)) && !(x == ("__classdict__" : Str))
def glB (k : Ck) (x : Str) : Bool := (k.sc.names.lookup x == some .globalImplicit) && nmOk x
def visB (k : Ck) (i : Nat) (x : Str) : Bool := (k.N[i]? == some x) && nmOk x && ((k.sc.names.lookup x == some .local) || (k.sc.names.lookup x == some .cell) || (k.sc.names.lookup x == some .free))
def locBB (k : Ck) (i : Nat) (x : Str) : Bool := (k.N[i]? == some x) && ((k.sc.names.lookup x == some .local) || ((k.sc.names.lookup x == some .cell) && k.fnl x))
def litC (k : Ck) (d : D) (a : Expr) : Bool := match a with
  | .Constant c _ _ => (match d, c with
    | .int i, .int j => i == j
    | .bl i, .bool j => i == j
    | .non, .none => true
    | .str x, .str s => s == strN x && decide (x.length ≤ lim)
    | _, _ => false)
  | .Name x _ => glB k x && (match d with
    | .int i => k.p.cons.any fun q => q.1 == x && (match q.2 with | .int j => i == j | _ => false)
    | .str i => k.p.cons.any fun q => q.1 == x && (match q.2 with | .str j => i == j | _ => false)
    | _ => false)
  | _ => false
def biC (k : Ck) (b : Bi) (n : Str) : Bool := (match biN b with | some (m, _) => m == n | none => false) && k.p.bis.contains n && glB k n
def tyC (k : Ck) (t : Ty) (m : Str) : Bool := k.p.bis.contains m && glB k m && (m == Str.ofString (tyN t)) && !(m == ("__name__" : Str))
def fnC (k : Ck) (f : Nat) (n : Str) : Bool := glB k n && (match k.p.fns[f]? with | some fs => decide (fs.at_ = (n, none)) | none => false)
def mtC (k : Ck) (c f : Nat) (m : Str) : Bool := decide (c < k.p.cls.length) && (match k.p.fns[f]? with | some fs => decide (fs.at_ = (k.p.clsN c, some m)) | none => false)
def mkC (k : Ck) (c f : Nat) (n : Str) : Bool := glB k n && (k.p.clsN c == n) && decide (c < k.p.cls.length) && (match k.p.fns[f]? with | some fs => decide (fs.at_ = (k.p.clsN c, some ("__init__" : Str))) && decide (fs.fi.io = [0]) | none => false)
def ownN (k : Ck) (own : List Nat) : List (Str × Nat) := own.filterMap fun i => (k.N[i]?).map fun x => (x, i)
mutual
def chkG (k : Ck) : Tg → Expr → Bool
  | .nm i, a => (match a with | .Name x _ => locBB k i x | _ => false)
  | .tu ts, a => (match a with | .Tuple as _ _ => chkGs k ts as | _ => false)
def chkGs (k : Ck) : List Tg → List Expr → Bool
  | [], as => as.isEmpty
  | t :: ts, as => (match as with | a :: as => chkG k t a && okG a && chkGs k ts as | [] => false)
end
def rngC (k : Ck) (n m t : Str) : Bool := (n == t) && k.p.bis.contains n && glB k n && (m == ("range" : Str)) && k.p.bis.contains m && glB k m
def mtN : Mt → Str
  | .index => "index"
  | .count => "count"
  | _ => ""
def mtKnown : Mt → Bool
  | .index => true
  | .count => true
  | _ => false
def isTupE : Expr → Bool
  | .Tuple _ _ _ => true
  | _ => false
mutual
def chkE (k : Ck) (tm : Bool) : E → Expr → Bool
  | .lit d, a => litC k d a && (!tm || okT a)
  | .var i, a => (match a with | .Name x _ => visB k i x | _ => false)
  | .tup es, a => !tm && (match a with | .Tuple as _ _ => chkEs k es as | _ => false)
  | .lst es, a => !tm && (match a with | .List as _ => chkEs k es as | _ => false)
  | .dnew, a => !tm && (match a with | .Dict [] [] _ => true | _ => false)
  | .bin o e f, a => !tm && (match a with | .BinOp x op y _ => decide (op = opOf o) && chkE k false e x && chkE k false f y | _ => false)
  | .neg e, a => !tm && (match a with | .UnaryOp .USub x _ => chkE k false e x | _ => false)
  | .cmp o e f, a => (match a with | .Compare x [op] [y] _ => decide (op = copOf o) && chkE k false e x && chkE k false f y && okH y | _ => false)
  | .chain o p e f g, a => (match a with | .Compare x [op, op2] [y, z] _ => decide (op = copOf o) && decide (op2 = copOf p) && chkE k false e x && chkE k false f y && chkE k false g z && okH z | _ => false)
  | .and e f, a => (match a with
    | .BoolOp .And [x, y] _ => chkE k tm e x && chkE k tm f y
    | .BoolOp .And (x :: y :: z :: r) q => chkE k tm e x && chkE k tm f (.BoolOp .And (y :: z :: r) q)
    | _ => false)
  | .or e f, a => (match a with
    | .BoolOp .Or [x, y] _ => chkE k tm e x && chkE k tm f y
    | .BoolOp .Or (x :: y :: z :: r) q => chkE k tm e x && chkE k tm f (.BoolOp .Or (y :: z :: r) q)
    | _ => false)
  | .not e, a => (match a with | .UnaryOp .Not x _ => chkE k tm e x | _ => false)
  | .ite c e f, a => !tm && (match a with | .IfExp x y z _ => chkE k true c x && chkE k false e y && chkE k false f z | _ => false)
  | .att e f, a => (match a with | .Attribute x n _ => decide (f < k.p.flds.length) && (k.p.fld f == n) && okH x && chkE k false e x | _ => false)
  | .idx e i, a => (match a with | .Subscript x y _ => okH y && chkE k false e x && chkE k false i y | _ => false)
  | .slc e lo hi, a => !tm && (match a with | .Subscript x (.Slice l h none _) _ => chkE k false e x && chkO k lo l && chkO k hi h | _ => false)
  | .rev e, a => !tm && (match a with | .Subscript x (.Slice none none (some (.UnaryOp .USub (.Constant (.int 1) _ _) _)) _) _ => chkE k false e x | _ => false)
  | .bi b es, a => (match a with
    | .Call (.Name n _) as [] _ => (match b with
      | .isi t => (match as with | [x, .Name m _] => (n == ("isinstance" : Str)) && k.p.bis.contains n && glB k n && tyC k t m && okH x && chkEs k es [x] | _ => false)
      | .lrng => !tm && (match as with | [.Call (.Name m _) bs [] _] => rngC k n m "list" && ((bs.length == 1) || (bs.length == 2)) && chkEs k es bs | _ => false)
      | .trng => !tm && (match as with | [.Call (.Name m _) bs [] _] => rngC k n m "tuple" && (bs.length == 2) && chkEs k es bs | _ => false)
      | b => biC k b n && !as.isEmpty && chkEs k es as)
    | _ => false)
  | .mt m e es, a => !tm && (match a with | .Call (.Attribute o n ap) [x] [] cp => mtKnown m && (n == mtN m) && okH o && (ap.endLine == cp.line) && chkE k false e o && chkEs k es [x] | _ => false)
  | .call f es, a => (match a with | .Call (.Name n _) as [] _ => fnC k f n && chkEs k es as | _ => false)
  | .meth c f e es, a => (match a with | .Call (.Attribute o m ap) as [] cp => mtC k c f m && okH o && (ap.endLine == cp.line) && decide (as.length < 30) && chkE k false e o && chkEs k es as | _ => false)
  | .mk c f es, a => !tm && (match a with | .Call (.Name n _) as [] _ => mkC k c f n && chkEs k es as | _ => false)
  | .comp elt tg it ifs own, a => !tm && (match a with
    | .ListComp x [⟨t, i, fs, 0⟩] scope _ => (((ownN k own).map (·.2)) == own) && blkC k.N k.sc scope (ownN k own) && ((tgv tg).all fun j => own.contains j) && okH i && chkI k (isTupE t) it i && chkG (k.blk scope) tg t && chkF (k.blk scope) ifs fs && chkE (k.blk scope) false elt x
    | _ => false)
  | .comp2 _ _ _ _ _ _ _, _ => false
def chkEs (k : Ck) : List E → List Expr → Bool
  | [], as => as.isEmpty
  | e :: es, as => (match as with | a :: as => chkE k false e a && okH a && chkEs k es as | [] => false)
def chkO (k : Ck) : Option E → Option Expr → Bool
  | none, a => a.isNone
  | some e, a => (match a with | some x => chkE k false e x | none => false)
/-- a clause's tests -/
def chkF (k : Ck) : List E → List Expr → Bool
  | [], as => as.isEmpty
  | e :: es, as => (match as with | [a] => es.isEmpty && chkE k true e a | _ => false)
def chkI (k : Ck) (tt : Bool) : It → Expr → Bool
  | .seq e, a => chkE k false e a
  | .rng es, a => (match a with | .Call (.Name n _) as [] _ => (n == ("range" : Str)) && k.p.bis.contains n && glB k n && ((as.length == 1) || (as.length == 2) || (as.length == 3)) && chkEs k es as | _ => false)
  | .enm x, a => tt && (match a with | .Call (.Name n _) [e1] [] _ => (n == ("enumerate" : Str)) && k.p.bis.contains n && glB k n && okH e1 && chkE k false x e1 | _ => false)
  | .zip x y, a => tt && (match a with | .Call (.Name n _) [e1, e2] [] _ => (n == ("zip" : Str)) && k.p.bis.contains n && glB k n && okH e1 && okH e2 && chkE k false x e1 && chkE k false y e2 | _ => false)
end
end Pd

end
section
set_option linter.all false
set_option autoImplicit false
set_option Elab.async false
set_option maxRecDepth 100000
/-! Pd.ChkOk: what is asked of a text suffices: expressions. -/
namespace Pd
open PySem PySem.Spec PyProof.Rows L2
theorem boot_ty {m : Str} : ∀ t : Ty, m = Str.ofString (tyN t) → bootBuiltins m = some (.type (tyN t)) := by
  intro t h
  subst h
  cases t <;> decide +kernel
def Cc.ck (c : Cc) : Ck := ⟨c.g.p, c.N, c.sc, c.fnl⟩
section
variable {c : Cc} {a : Expr} {e : E}
theorem len_two {α : Type} {l : List α} (h : l.length = 2) : ∃ a b, l = [a, b] := by
  match l, h with
  | [a, b], _ => exact ⟨a, b, rfl⟩
theorem nmOk_of {x : Str} (h : nmOk x = true) : (x == ("__debug__" : Str)) = false ∧ (x == ("__classdict__" : Str)) = false := by
  unfold nmOk at h
  simpa using h
theorem glB_of {x : Str} (h : glB c.ck x = true) : c.sc.names.lookup x = some .globalImplicit ∧ (x == ("__debug__" : Str)) = false := by
  unfold glB at h
  obtain ⟨h1, h2⟩ := Bool.and_eq_true_iff.mp h
  exact ⟨eq_of_beq h1, (nmOk_of h2).1⟩
theorem visB_of {i : Nat} {x : Str} (h : visB c.ck i x = true) : c.N[i]? = some x ∧ Vis c.sc x ∧ (x == ("__debug__" : Str)) = false ∧ (x == ("__classdict__" : Str)) = false := by
  unfold visB at h
  simp only [Bool.and_eq_true, Bool.or_eq_true] at h
  obtain ⟨⟨h1, h2⟩, h3⟩ := h
  refine ⟨eq_of_beq h1, ?_, nmOk_of h2⟩
  rcases h3 with (h3 | h3) | h3
  · exact .inl (eq_of_beq h3)
  · exact .inr (.inl (eq_of_beq h3))
  · exact .inr (.inr (eq_of_beq h3))
theorem locBB_of {i : Nat} {x : Str} (h : locBB c.ck i x = true) : c.N[i]? = some x ∧ locB c x := by
  unfold locBB at h
  simp only [Bool.and_eq_true, Bool.or_eq_true] at h
  obtain ⟨h1, h3⟩ := h
  refine ⟨eq_of_beq h1, ?_⟩
  rcases h3 with h3 | ⟨h3, h4⟩
  · exact ⟨.inl (eq_of_beq h3), .inr (eq_of_beq h3)⟩
  · exact ⟨.inr (eq_of_beq h3), .inl h4⟩
theorem okH_name {x : Str} {p : Pos} : okH (.Name x p) = true := rfl
/-- both ways, where a test is asked by its value -/
theorem both {tm : Bool} (h : SE c a e) (ht : tm = true → okT a = true) : (tm = false → SE c a e) ∧ (tm = true → ST c a e) := ⟨fun _ => h, fun z => st_val h (ht z)⟩
theorem lit_ok {d : D} (h : litC c.ck d a = true) : SE c a (.lit d) := by
  unfold litC at h
  split at h
  · split at h
    · rw [eq_of_beq h]; exact se_int
    · rw [eq_of_beq h]; exact se_bl
    · exact se_non
    · obtain ⟨h1, h2⟩ := Bool.and_eq_true_iff.mp h
      rw [eq_of_beq h1]
      exact se_str (of_decide_eq_true h2)
    · cases h
  · obtain ⟨h1, h2⟩ := Bool.and_eq_true_iff.mp h
    obtain ⟨g1, g2⟩ := glB_of h1
    split at h2
    · obtain ⟨⟨y, d'⟩, hm, hq⟩ := List.any_eq_true.mp h2
      obtain ⟨q1, q2⟩ := Bool.and_eq_true_iff.mp hq
      split at q2
      · rename_i j ej
        rw [eq_of_beq q2]
        refine se_con ?_ g1 g2
        have : y = _ := eq_of_beq q1
        rw [← this]
        have e2 : d' = .int j := ej
        rw [← e2]
        exact hm
      · cases q2
    · obtain ⟨⟨y, d'⟩, hm, hq⟩ := List.any_eq_true.mp h2
      obtain ⟨q1, q2⟩ := Bool.and_eq_true_iff.mp hq
      split at q2
      · rename_i j ej
        rw [eq_of_beq q2]
        refine se_con ?_ g1 g2
        have : y = _ := eq_of_beq q1
        rw [← this]
        have e2 : d' = .str j := ej
        rw [← e2]
        exact hm
      · cases q2
    · cases h2
  · cases h
mutual
theorem chkG_ok : ∀ (t : Tg) (a : Expr), chkG c.ck t a = true → SG c a t
  | .nm i, a, h => by
    simp only [chkG] at h
    split at h
    · obtain ⟨h1, h2⟩ := locBB_of h
      exact sg_nm h1 h2
    · cases h
  | .tu ts, a, h => by
    simp only [chkG] at h
    split at h
    · obtain ⟨h1, h2, h3⟩ := chkGs_ok ts _ h
      exact sg_tu h1 h2 h3
    · cases h
theorem chkGs_ok : ∀ (ts : List Tg) (as : List Expr), chkGs c.ck ts as = true → SGs c as ts ∧ (∀ a ∈ as, okG a = true) ∧ ts.length = as.length
  | [], as, h => by
    simp only [chkGs] at h
    cases as with
    | nil => exact ⟨sgs_nil, fun a h => (by cases h), rfl⟩
    | cons _ _ => simp at h
  | t :: ts, as, h => by
    simp only [chkGs] at h
    split at h
    · simp only [Bool.and_eq_true] at h
      obtain ⟨⟨h1, h2⟩, h3⟩ := h
      obtain ⟨k1, k2, k3⟩ := chkGs_ok ts _ h3
      exact ⟨sgs_cons (chkG_ok t _ h1) h2 k1, fun x hx => by rcases List.mem_cons.mp hx with rfl | hx; exact h2; exact k2 x hx, by simp [k3]⟩
    · cases h
end
/-- what a list's check gives -/
structure Args (c : Cc) (as : List Expr) (es : List E) : Prop where
  sa : SA c as es
  sb : SB c as es
  sk : SK c as es
  hd : ∀ a ∈ as, okH a = true
  len : es.length = as.length
mutual
theorem chkE_ok : ∀ (c : Cc) (tm : Bool) (e : E) (a : Expr), chkE c.ck tm e a = true → (tm = false → SE c a e) ∧ (tm = true → ST c a e)
  | c, tm, .lit d, a, h => by
    simp only [chkE] at h
    obtain ⟨h1, h2⟩ := Bool.and_eq_true_iff.mp h
    exact both (lit_ok h1) fun z => by rw [z] at h2; simpa using h2
  | c, tm, .var i, a, h => by
    simp only [chkE] at h
    split at h
    · obtain ⟨h1, h2, h3, h4⟩ := visB_of h
      exact both (se_var h1 h2 h3 h4) fun _ => rfl
    · cases h
  | c, tm, .tup es, a, h => by
    simp only [chkE] at h
    split at h
    · simp only [Bool.and_eq_true] at h
      exact ⟨fun _ => se_tup (chkEs_ok c es _ h.2).sa, fun z => by rw [z] at h; simp at h⟩
    · simp at h
  | c, tm, .lst es, a, h => by
    simp only [chkE] at h
    split at h
    · simp only [Bool.and_eq_true] at h
      exact ⟨fun _ => se_lst (chkEs_ok c es _ h.2).sa, fun z => by rw [z] at h; simp at h⟩
    · simp at h
  | c, tm, .dnew, a, h => by
    simp only [chkE] at h
    split at h
    · simp only [Bool.and_eq_true] at h
      exact ⟨fun _ => se_dnew, fun z => by rw [z] at h; simp at h⟩
    · simp at h
  | c, tm, .bin o e f, a, h => by
    simp only [chkE] at h
    split at h
    · simp only [Bool.and_eq_true] at h
      obtain ⟨h0, ⟨h1, h2⟩, h3⟩ := h
      rw [of_decide_eq_true h1]
      exact ⟨fun _ => se_bin ((chkE_ok c false e _ h2).1 rfl) ((chkE_ok c false f _ h3).1 rfl), fun z => by rw [z] at h0; simp at h0⟩
    · simp at h
  | c, tm, .neg e, a, h => by
    simp only [chkE] at h
    split at h
    · simp only [Bool.and_eq_true] at h
      exact ⟨fun _ => se_neg ((chkE_ok c false e _ h.2).1 rfl), fun z => by rw [z] at h; simp at h⟩
    · simp at h
  | c, tm, .cmp o e f, a, h => by
    simp only [chkE] at h
    split at h
    · simp only [Bool.and_eq_true] at h
      obtain ⟨⟨⟨h1, h2⟩, h3⟩, h4⟩ := h
      rw [of_decide_eq_true h1]
      exact ⟨fun _ => se_cmp ((chkE_ok c false e _ h2).1 rfl) ((chkE_ok c false f _ h3).1 rfl) h4, fun _ => st_cmp ((chkE_ok c false e _ h2).1 rfl) ((chkE_ok c false f _ h3).1 rfl) h4⟩
    · simp at h
  | c, tm, .chain o p e f g, a, h => by
    simp only [chkE] at h
    split at h
    · simp only [Bool.and_eq_true] at h
      obtain ⟨⟨⟨⟨⟨h1, h2⟩, h3⟩, h4⟩, h5⟩, h6⟩ := h
      rw [of_decide_eq_true h1, of_decide_eq_true h2]
      exact ⟨fun _ => se_chain ((chkE_ok c false e _ h3).1 rfl) ((chkE_ok c false f _ h4).1 rfl) ((chkE_ok c false g _ h5).1 rfl) h6, fun _ => st_chain ((chkE_ok c false e _ h3).1 rfl) ((chkE_ok c false f _ h4).1 rfl) ((chkE_ok c false g _ h5).1 rfl) h6⟩
    · simp at h
  | c, tm, .and e f, a, h => by
    simp only [chkE] at h
    split at h
    · simp only [Bool.and_eq_true] at h
      obtain ⟨h1, h2⟩ := h
      have k1 := chkE_ok c tm e _ h1
      have k2 := chkE_ok c tm f _ h2
      exact ⟨fun z => se_and (k1.1 z) (se_one (k2.1 z)), fun z => st_and (k1.2 z) (st_one_and (k2.2 z))⟩
    · simp only [Bool.and_eq_true] at h
      obtain ⟨h1, h2⟩ := h
      have k1 := chkE_ok c tm e _ h1
      have k2 := chkE_ok c tm f _ h2
      exact ⟨fun z => se_and (k1.1 z) (k2.1 z), fun z => st_and (k1.2 z) (k2.2 z)⟩
    · simp at h
  | c, tm, .or e f, a, h => by
    simp only [chkE] at h
    split at h
    · simp only [Bool.and_eq_true] at h
      obtain ⟨h1, h2⟩ := h
      have k1 := chkE_ok c tm e _ h1
      have k2 := chkE_ok c tm f _ h2
      exact ⟨fun z => se_or (k1.1 z) (se_one (k2.1 z)), fun z => st_or (k1.2 z) (st_one_or (k2.2 z))⟩
    · simp only [Bool.and_eq_true] at h
      obtain ⟨h1, h2⟩ := h
      have k1 := chkE_ok c tm e _ h1
      have k2 := chkE_ok c tm f _ h2
      exact ⟨fun z => se_or (k1.1 z) (k2.1 z), fun z => st_or (k1.2 z) (k2.2 z)⟩
    · simp at h
  | c, tm, .not e, a, h => by
    simp only [chkE] at h
    split at h
    · have k1 := chkE_ok c tm e _ h
      exact ⟨fun z => se_not (k1.1 z), fun z => st_not (k1.2 z)⟩
    · simp at h
  | c, tm, .ite x e f, a, h => by
    simp only [chkE] at h
    split at h
    · simp only [Bool.and_eq_true] at h
      obtain ⟨h0, ⟨h1, h2⟩, h3⟩ := h
      exact ⟨fun _ => ite_ok ((chkE_ok c true x _ h1).2 rfl) ((chkE_ok c false e _ h2).1 rfl) ((chkE_ok c false f _ h3).1 rfl), fun z => by rw [z] at h0; simp at h0⟩
    · simp at h
  | c, tm, .att e f, a, h => by
    simp only [chkE] at h
    split at h
    · simp only [Bool.and_eq_true] at h
      obtain ⟨⟨⟨h1, h2⟩, h3⟩, h4⟩ := h
      rw [← eq_of_beq h2]
      exact both (se_att ((chkE_ok c false e _ h4).1 rfl) h3 (of_decide_eq_true h1)) fun _ => rfl
    · simp at h
  | c, tm, .idx e i, a, h => by
    simp only [chkE] at h
    split at h
    · simp only [Bool.and_eq_true] at h
      obtain ⟨⟨h1, h2⟩, h3⟩ := h
      exact both (se_idx ((chkE_ok c false e _ h2).1 rfl) ((chkE_ok c false i _ h3).1 rfl) h1) fun _ => rfl
    · simp at h
  | c, tm, .slc e lo hi, a, h => by
    simp only [chkE] at h
    split at h
    · simp only [Bool.and_eq_true] at h
      obtain ⟨h0, ⟨h1, h2⟩, h3⟩ := h
      exact ⟨fun _ => se_slc ((chkE_ok c false e _ h1).1 rfl) (chkO_ok c lo _ h2) (chkO_ok c hi _ h3), fun z => by rw [z] at h0; simp at h0⟩
    · simp at h
  | c, tm, .rev e, a, h => by
    simp only [chkE] at h
    split at h
    · simp only [Bool.and_eq_true] at h
      exact ⟨fun _ => se_rev ((chkE_ok c false e _ h.2).1 rfl), fun z => by rw [z] at h; simp at h⟩
    · simp at h
  | c, tm, .bi b es, a, h => by
    simp only [chkE] at h
    split at h
    · rename_i n p1 as p2
      split at h
      · split at h
        · simp only [Bool.and_eq_true] at h
          obtain ⟨⟨⟨⟨⟨h1, h2⟩, h3⟩, h4⟩, h5⟩, h6⟩ := h
          unfold tyC at h4
          simp only [Bool.and_eq_true] at h4
          obtain ⟨⟨⟨t1, t2⟩, t3⟩, t4⟩ := h4
          cases es with
          | nil => simp [chkEs] at h6
          | cons e es =>
            cases es with
            | cons _ _ => simp [chkEs] at h6
            | nil =>
              simp only [chkEs, Bool.and_eq_true] at h6
              have k1 := (chkE_ok c false e _ h6.1.1).1 rfl
              refine both (se_isi (eq_of_beq h1) (List.contains_iff_mem.mp h2) (glB_of h3).1 (boot_ty _ (eq_of_beq t3)) (List.contains_iff_mem.mp t1) (glB_of t2).1 ?_ (glB_of t2).2 h5 k1) fun _ => rfl
              simpa using t4
        · cases h
      · simp only [Bool.and_eq_true] at h
        obtain ⟨h0, h⟩ := h
        split at h
        · simp only [Bool.and_eq_true] at h
          obtain ⟨⟨h1, h2⟩, h3⟩ := h
          unfold rngC at h1
          simp only [Bool.and_eq_true] at h1
          obtain ⟨⟨⟨⟨⟨r1, r2⟩, r3⟩, r4⟩, r5⟩, r6⟩ := h1
          rw [eq_of_beq r1] at r2 r3 ⊢
          rw [eq_of_beq r4] at r5 r6 ⊢
          refine ⟨fun _ => ?_, fun z => by rw [z] at h0; simp at h0⟩
          rcases Bool.or_eq_true_iff.mp h2 with h2 | h2
          · obtain ⟨a1, rfl⟩ := List.length_eq_one_iff.mp (eq_of_beq h2)
            cases es with
            | nil => simp [chkEs] at h3
            | cons e es =>
              simp only [chkEs, Bool.and_eq_true] at h3
              obtain ⟨⟨g1, g2⟩, g3⟩ := h3
              cases es with
              | cons _ _ => simp [chkEs] at g3
              | nil => exact se_lrng1 (List.contains_iff_mem.mp r2) (glB_of r3).1 (List.contains_iff_mem.mp r5) (glB_of r6).1 g2 ((chkE_ok c false e a1 g1).1 rfl)
          · obtain ⟨a1, a2, rfl⟩ := len_two (eq_of_beq h2)
            cases es with
            | nil => simp [chkEs] at h3
            | cons e es =>
              simp only [chkEs, Bool.and_eq_true] at h3
              obtain ⟨⟨g1, g2⟩, g3⟩ := h3
              cases es with
              | nil => simp [chkEs] at g3
              | cons f es =>
                simp only [chkEs, Bool.and_eq_true] at g3
                obtain ⟨⟨g4, g5⟩, g6⟩ := g3
                cases es with
                | cons _ _ => simp [chkEs] at g6
                | nil => exact se_lrng2 (List.contains_iff_mem.mp r2) (glB_of r3).1 (List.contains_iff_mem.mp r5) (glB_of r6).1 g2 g5 ((chkE_ok c false e a1 g1).1 rfl) ((chkE_ok c false f a2 g4).1 rfl)
        · cases h
      · simp only [Bool.and_eq_true] at h
        obtain ⟨h0, h⟩ := h
        split at h
        · simp only [Bool.and_eq_true] at h
          obtain ⟨⟨h1, h2⟩, h3⟩ := h
          unfold rngC at h1
          simp only [Bool.and_eq_true] at h1
          obtain ⟨⟨⟨⟨⟨r1, r2⟩, r3⟩, r4⟩, r5⟩, r6⟩ := h1
          rw [eq_of_beq r1] at r2 r3 ⊢
          rw [eq_of_beq r4] at r5 r6 ⊢
          refine ⟨fun _ => ?_, fun z => by rw [z] at h0; simp at h0⟩
          obtain ⟨a1, a2, rfl⟩ := len_two (eq_of_beq h2)
          cases es with
          | nil => simp [chkEs] at h3
          | cons e es =>
            simp only [chkEs, Bool.and_eq_true] at h3
            obtain ⟨⟨g1, g2⟩, g3⟩ := h3
            cases es with
            | nil => simp [chkEs] at g3
            | cons f es =>
              simp only [chkEs, Bool.and_eq_true] at g3
              obtain ⟨⟨g4, g5⟩, g6⟩ := g3
              cases es with
              | cons _ _ => simp [chkEs] at g6
              | nil => exact se_trng2 (List.contains_iff_mem.mp r2) (glB_of r3).1 (List.contains_iff_mem.mp r5) (glB_of r6).1 g2 g5 ((chkE_ok c false e a1 g1).1 rfl) ((chkE_ok c false f a2 g4).1 rfl)
        · cases h
      · simp only [Bool.and_eq_true] at h
        obtain ⟨⟨h1, h2⟩, h3⟩ := h
        unfold biC at h1
        simp only [Bool.and_eq_true] at h1
        obtain ⟨⟨b1, b2⟩, b3⟩ := h1
        split at b1
        · rename_i m fv hb
          have k2 := chkEs_ok c es _ h3
          cases as with
          | nil => simp at h2
          | cons a0 as0 => exact both (se_bi hb (by rw [eq_of_beq b1]; exact List.contains_iff_mem.mp b2) (by rw [eq_of_beq b1]; exact (glB_of b3).1) k2.hd k2.sb) (fun _ => rfl) |> fun q => by rw [← eq_of_beq b1]; exact q
        · cases b1
    · simp at h
  | c, tm, .mt m e es, a, h => by
    simp only [chkE] at h
    split at h
    · rename_i o n ap x cp
      simp only [Bool.and_eq_true] at h
      obtain ⟨h0, ⟨⟨⟨⟨h1, h2⟩, h3⟩, h4⟩, h5⟩, h6⟩ := h
      refine ⟨fun _ => ?_, fun z => by rw [z] at h0; simp at h0⟩
      have e2 := eq_of_beq h2
      rw [e2]
      cases es with
      | nil => simp [chkEs] at h6
      | cons f es =>
        simp only [chkEs, Bool.and_eq_true] at h6
        obtain ⟨⟨g1, g2⟩, g3⟩ := h6
        cases es with
        | cons _ _ => simp [chkEs] at g3
        | nil =>
          have k1 := (chkE_ok c false e o h5).1 rfl
          have k2 := (chkE_ok c false f x g1).1 rfl
          cases m with
          | index => exact se_index k1 h3 k2 g2 h4
          | count => exact se_count k1 h3 k2 g2 h4
          | _ => cases h1
    · simp at h
  | c, tm, .call f es, a, h => by
    simp only [chkE] at h
    split at h
    · rename_i n p1 as p2
      obtain ⟨h1, h2⟩ := Bool.and_eq_true_iff.mp h
      have k2 := chkEs_ok c es _ h2
      unfold fnC at h1
      obtain ⟨g1, g2⟩ := Bool.and_eq_true_iff.mp h1
      obtain ⟨g3, g4⟩ := glB_of g1
      split at g2
      · rename_i fs hf
        cases as with
        | nil =>
          have : es = [] := List.length_eq_zero_iff.mp k2.len
          subst this
          exact both (se_call0 hf (of_decide_eq_true g2) g3 g4) fun _ => rfl
        | cons a0 as0 => exact both (se_call hf (of_decide_eq_true g2) g3 g4 k2.hd k2.sa) fun _ => rfl
      · cases g2
    · simp at h
  | c, tm, .meth ci f e es, a, h => by
    simp only [chkE] at h
    split at h
    · rename_i o m ap as cp
      simp only [Bool.and_eq_true] at h
      obtain ⟨⟨⟨⟨⟨h1, h2⟩, h3⟩, h4⟩, h5⟩, h6⟩ := h
      have k2 := chkEs_ok c es _ h6
      unfold mtC at h1
      obtain ⟨g1, g2⟩ := Bool.and_eq_true_iff.mp h1
      split at g2
      · rename_i fs hf
        exact both (se_meth hf (of_decide_eq_true g2) (of_decide_eq_true g1) h3 h2 k2.hd (of_decide_eq_true h4) k2.len ((chkE_ok c false e _ h5).1 rfl) k2.sa) fun _ => rfl
      · cases g2
    · simp at h
  | c, tm, .mk ci f es, a, h => by
    simp only [chkE] at h
    split at h
    · rename_i n p1 as p2
      simp only [Bool.and_eq_true] at h
      obtain ⟨h0, h1, h2⟩ := h
      have k2 := chkEs_ok c es _ h2
      unfold mkC at h1
      simp only [Bool.and_eq_true] at h1
      obtain ⟨⟨⟨g1, g2⟩, g3⟩, g4⟩ := h1
      split at g4
      · rename_i fs hf
        obtain ⟨g5, g6⟩ := Bool.and_eq_true_iff.mp g4
        obtain ⟨g7, g8⟩ := glB_of g1
        refine ⟨fun _ => ?_, fun z => by rw [z] at h0; simp at h0⟩
        have e2 : c.g.p.clsN ci = n := eq_of_beq g2
        rw [← e2] at g7 g8 ⊢
        exact se_mk hf (of_decide_eq_true g5) (of_decide_eq_true g6) (of_decide_eq_true g3) g7 g8 k2.hd k2.len k2.sa
      · cases g4
    · simp at h
  | c, tm, .comp elt tg it ifs own, a, h => by
    simp only [chkE] at h
    split at h
    · rename_i x t i fs scope p1
      simp only [Bool.and_eq_true] at h
      obtain ⟨h0, ⟨⟨⟨⟨⟨⟨h1, h2⟩, h3⟩, h4⟩, h5⟩, h6⟩, h7⟩, h8⟩ := h
      refine ⟨fun _ => ?_, fun z => by rw [z] at h0; simp at h0⟩
      have e1 : (ownN c.ck own).map (·.2) = own := eq_of_beq h1
      have e3 : ∀ j ∈ tgv tg, j ∈ (ownN c.ck own).map (·.2) := fun j hj => by rw [e1]; exact List.contains_iff_mem.mp (List.all_eq_true.mp h3 j hj)
      have q := se_comp (pos := p1) h2 e3 h4 (chkI_ok c (isTupE t) it i t id h5).1 (chkG_ok (c := c.blk scope) tg t h6) (chkF_ok (c.blk scope) ifs fs h7) ((chkE_ok (c.blk scope) false elt x h8).1 rfl)
      rw [e1] at q
      exact q
    · simp at h
  | c, tm, .comp2 _ _ _ _ _ _ _, a, h => by simp [chkE] at h
theorem chkEs_ok : ∀ (c : Cc) (es : List E) (as : List Expr), chkEs c.ck es as = true → Args c as es
  | c, [], as, h => by
    simp only [chkEs] at h
    cases as with
    | nil => exact ⟨sa_nil, sb_nil, sk_nil, fun a h => (by cases h), rfl⟩
    | cons _ _ => simp at h
  | c, e :: es, as, h => by
    simp only [chkEs] at h
    split at h
    · simp only [Bool.and_eq_true] at h
      obtain ⟨⟨h1, h2⟩, h3⟩ := h
      have k1 := (chkE_ok c false e _ h1).1 rfl
      have k2 := chkEs_ok c es _ h3
      exact ⟨sa_cons k1 h2 k2.sa, sb_cons k1 h2 k2.sb, sk_cons k1 h2 k2.sk, fun x hx => by rcases List.mem_cons.mp hx with rfl | hx; exact h2; exact k2.hd x hx, by simp [k2.len]⟩
    · cases h
theorem chkO_ok : ∀ (c : Cc) (e : Option E) (a : Option Expr), chkO c.ck e a = true → SO c a e
  | c, none, a, h => by
    simp only [chkO] at h
    cases a with
    | none => exact so_none
    | some _ => simp at h
  | c, some e, a, h => by
    simp only [chkO] at h
    split at h
    · exact so_some ((chkE_ok c false e _ h).1 rfl)
    · cases h
theorem chkF_ok : ∀ (c : Cc) (es : List E) (as : List Expr), chkF c.ck es as = true → STs c as es
  | c, [], as, h => by
    simp only [chkF] at h
    cases as with
    | nil => exact sts_nil
    | cons _ _ => simp at h
  | c, e :: es, as, h => by
    simp only [chkF] at h
    split at h
    · simp only [Bool.and_eq_true] at h
      have k1 := (chkE_ok c true e _ h.2).2 rfl
      cases es with
      | nil => exact sts_one k1
      | cons _ _ => simp at h
    · cases h
theorem chkI_ok : ∀ (c : Cc) (tt : Bool) (it : Pd.It) (a tg : Expr), (tt = true → isTupE tg = true) → chkI c.ck tt it a = true → SI c tg a it ∧ SIs c tg a it
  | c, tt, .seq e, a, tg, ht, h => by
    simp only [chkI] at h
    have k := (chkE_ok c false e _ h).1 rfl
    exact ⟨si_seq k, sis_seq k⟩
  | c, tt, .rng es, a, tg, ht, h => by
    simp only [chkI] at h
    split at h
    · rename_i n p1 as p2
      simp only [Bool.and_eq_true, Bool.or_eq_true] at h
      obtain ⟨⟨⟨⟨h1, h2⟩, h3⟩, h4⟩, h5⟩ := h
      have k2 := chkEs_ok c es _ h5
      have e4 : as.length = 1 ∨ as.length = 2 ∨ as.length = 3 := by
        rcases h4 with (h4 | h4) | h4
        · exact .inl (eq_of_beq h4)
        · exact .inr (.inl (eq_of_beq h4))
        · exact .inr (.inr (eq_of_beq h4))
      exact ⟨si_rng (eq_of_beq h1) (List.contains_iff_mem.mp h2) (glB_of h3).1 k2.hd e4 k2.len k2.sa, sis_rng (eq_of_beq h1) (List.contains_iff_mem.mp h2) (glB_of h3).1 k2.hd e4 k2.len k2.sa⟩
    · simp at h
  | c, tt, .enm x, a, tg, ht, h => by
    simp only [chkI, Bool.and_eq_true] at h
    obtain ⟨h0, h⟩ := h
    have ht := ht h0
    unfold isTupE at ht
    split at ht
    · split at h
      · simp only [Bool.and_eq_true] at h
        obtain ⟨⟨⟨⟨h1, h2⟩, h3⟩, h4⟩, h5⟩ := h
        have e := eq_of_beq h1
        rw [e] at h2 h3 ⊢
        have k := (chkE_ok c false x _ h5).1 rfl
        exact ⟨si_enm (List.contains_iff_mem.mp h2) (glB_of h3).1 h4 k, sis_enm (List.contains_iff_mem.mp h2) (glB_of h3).1 h4 k⟩
      · cases h
    · cases ht
  | c, tt, .zip x y, a, tg, ht, h => by
    simp only [chkI, Bool.and_eq_true] at h
    obtain ⟨h0, h⟩ := h
    have ht := ht h0
    unfold isTupE at ht
    split at ht
    · split at h
      · simp only [Bool.and_eq_true] at h
        obtain ⟨⟨⟨⟨⟨⟨h1, h2⟩, h3⟩, h4⟩, h5⟩, h6⟩, h7⟩ := h
        have e := eq_of_beq h1
        rw [e] at h2 h3 ⊢
        have sb := sb_cons ((chkE_ok c false x _ h6).1 rfl) h4 (sb_cons ((chkE_ok c false y _ h7).1 rfl) h5 sb_nil)
        exact ⟨si_zip (List.contains_iff_mem.mp h2) (glB_of h3).1 h4 h5 sb, sis_zip (List.contains_iff_mem.mp h2) (glB_of h3).1 h4 h5 sb⟩
      · cases h
    · cases ht
end
end
end Pd

end
section
set_option linter.all false
set_option autoImplicit false
set_option Elab.async false
set_option maxRecDepth 100000
/-! Pd.ChkS: what is asked of statements. -/
namespace Pd
open PySem PySem.Spec PyProof.Rows L2
def noComp : Expr → Bool
  | .ListComp _ _ _ _ => false
  | .SetComp _ _ _ _ => false
  | .DictComp _ _ _ _ _ => false
  | _ => true
def noTup : Expr → Bool
  | .Tuple _ _ _ => false
  | _ => true
def chkP (k : Ck) (p : Pth) (a : Expr) : Bool := match p with
  | .v i => (match a with | .Name x _ => visB k i x | _ => false)
  | .a i f => (match a with | .Attribute (.Name x _) n _ => visB k i x && decide (f < k.p.flds.length) && (k.p.fld f == n) | _ => false)
/-- one target for a kept value -/
def chkT1 (k : Ck) (io : List Nat) (t : T) (a : Expr) : Bool := match t with
  | .nm i => (match a with | .Name x _ => locBB k i x && !io.contains i | _ => false)
  | .sub p e => (match a with | .Subscript pa y _ => chkP k p pa && okH y && chkE k false e y | _ => false)
  | _ => false
def chkTs (k : Ck) (io : List Nat) : List T → List Expr → Bool
  | [], as => as.isEmpty
  | t :: ts, as => (match as with | a :: as => chkT1 k io t a && chkTs k io ts as | [] => false)
def chkN (k : Ck) (io : List Nat) : List Nat → List Expr → Bool
  | [], as => as.isEmpty
  | i :: is, as => (match as with | a :: as => (match a with | .Name x _ => locBB k i x && !io.contains i | _ => false) && chkN k io is as | [] => false)
def lineOf (as : List Expr) : Nat := (as.head?.map (·.pos.line)).getD 0
def nms (k : Ck) (as : List Expr) : List Str := as.filterMap (nmL k.sc (lineOf as))
/-- a plain tuple is made -/
def swNone (k : Ck) (tas as : List Expr) : Bool := decide (k.sc.kind = .function) && decide (as.length = tas.length) && decide (tas.length = 2 ∨ tas.length = 3) && decide ((nms k tas).length ≠ tas.length)
/-- stored from the right, the tuple not made -/
def swSome (k : Ck) (tas as : List Expr) : Bool := decide (k.sc.kind = .function) && decide (as.length = tas.length) && decide ((nms k tas).length = tas.length) && decide ((nms k tas).eraseDups.length = (nms k tas).length) && !(as.all (foldedForSure 8)) && !(as.all (constantsAlone 8))
def swapB (k : Ck) (x : Str) (p : Pos) (a : Expr) : Bool := match a with
  | .ListComp _ _ scope cp => decide (k.sc.kind = .function) && (k.sc.names.lookup x == some .local) && (p.line == cp.line) && !(scope.names.any fun (n, q) => n == x && (q == .local || q == .cell))
  | _ => false
/-- handlers that tell whether the error is of class x -/
def tryH (hs : List (List Nat × List S)) : Option (Nat × List Nat) := match hs with
  | [([x], [.ret (.lit (.bl true))]), (l2, [.ret (.lit (.bl false))])] => some (x, l2)
  | _ => none
theorem tryH_eq {hs : List (List Nat × List S)} {x : Nat} {l2 : List Nat} (h : tryH hs = some (x, l2)) : hs = [([x], [.ret (.lit (.bl true))]), (l2, [.ret (.lit (.bl false))])] := by
  unfold tryH at h
  split at h
  · cases h; rfl
  · cases h
/-- the handler's text -/
def tryA (k : Ck) (x : Nat) (n0 n isn n1 n2 : Str) : Bool := decide (x < k.p.excs.length) && decide (x ≠ 0) && (k.p.excN 0 == n0) && glB k n0 && (isn == ("isinstance" : Str)) && glB k isn && decide (("isinstance" : Str) ∈ k.p.bis) && (n1 == n) && (k.p.excN x == n2) && glB k n2 && visB k (k.N.findIdx (· == n)) n && (k.sc.names.lookup n == some .local)
def isFrz : S → Bool
  | .frz _ => true
  | _ => false
mutual
def chkS (k : Ck) (io : List Nat) : S → Stmt → Bool
  | .frz _, _ => false
  | .ex e, st => (match st with | .Expr a _ => chkE k false e a && noComp a | _ => false)
  | .asg t e, st => (match st with
    | .Assign [b] a _ => (match t with
      | .nm i => (match b with
        | .Name x p => locBB k i x && !io.contains i && chkE k false e a && (noComp a || swapB k x p a || (k.sc.names.lookup x == some .cell))
        | _ => false)
      | .att i f => (match b with | .Attribute (.Name x _) n _ => visB k i x && decide (f < k.p.flds.length) && (k.p.fld f == n) && chkE k false e a | _ => false)
      | .sub p j => chkT1 k io (.sub p j) b && chkE k false e a
      | .tu ts => (match b with | .Tuple tas _ _ => chkTs k io ts tas && noTup a && chkE k false e a | _ => false))
    | _ => false)
  | .par is es, st => (match st with
    | .Assign [.Tuple tas _ _] (.Tuple as _ _) _ => chkN k io is tas && chkEs k es as && (match is, tas with
      | [i, j], [.Name x _, .Name y _] => (swNone k tas as) || (swSome k tas as && decide (i ≠ j) && (k.sc.names.lookup x == some .local) && (k.sc.names.lookup y == some .local))
      | [i, j, l], [.Name x _, .Name y _, .Name z _] => (swNone k tas as) || (swSome k tas as && decide (i ≠ j ∧ i ≠ l ∧ j ≠ l) && (k.sc.names.lookup x == some .local) && (k.sc.names.lookup y == some .local) && (k.sc.names.lookup z == some .local))
      | _, _ => false)
    | _ => false)
  | .parz ts es, st => (match st with
    | .Assign [.Tuple tas _ _] (.Tuple as _ _) _ => chkTs k io ts tas && chkEs k es as && swNone k tas as
    | _ => false)
  | .aug _ _ _, _ => false
  | .augs _ _ _ _, _ => false
  | .app p e, st => (match st with | .Expr (.Call (.Attribute pa n ap) [a] [] cp) _ => (n == ("append" : Str)) && (ap.endLine == cp.line) && chkP k p pa && okH a && chkE k false e a | _ => false)
  | .ext p e, st => (match st with | .Expr (.Call (.Attribute pa n ap) [a] [] cp) _ => (n == ("extend" : Str)) && (ap.endLine == cp.line) && chkP k p pa && okH a && chkE k false e a | _ => false)
  | .pop _ _, _ => false
  | .popx _, _ => false
  | .sda _ _ _, _ => false
  | .if_ c p q, st => (match st with | .If a x y _ => chkE k true c a && chkSs k io p x && chkSs k io q y | _ => false)
  | .for_ tg it b, st => (match st with | .For t i x [] _ => okH i && chkI k (isTupE t) it i && chkG k tg t && ((tgv tg).all fun j => !io.contains j) && chkSs k io b x | _ => false)
  | .whl _ c b, st => (match st with | .While a x [] _ => chkE k true c a && chkSs k io b x | _ => false)
  | .ret e, st => (match st with | .Return (some a) _ => chkE k false e a | _ => false)
  | .retv i, st => (match st with | .Return (some (.Name x _)) _ => visB k i x | _ => false)
  | .retn, st => (match st with | .Return none _ => true | _ => false)
  | .brk, st => (match st with | .Break _ => true | _ => false)
  | .cnt, st => (match st with | .Continue _ => true | _ => false)
  | .pas, st => (match st with | .Pass _ => true | _ => false)
  | .rse i, st => (match st with | .Raise (some (.Call (.Name n _) [.Constant (.str _) _ _] [] _)) none _ => decide (i < k.p.excs.length) && (k.p.excN i == n) && glB k n | _ => false)
  | .try_ b hs, st => (match tryH hs with
    | some (x, l2) => (match st with
      | .Try body [.ExceptHandler (some (.Name n0 _)) (some n) [.Return (some (.Call (.Name isn _) [.Name n1 _, .Name n2 _] [] _)) _] _] [] [] _ => tryA k x n0 n isn n1 n2 && (l2.all fun j => decide (j < k.p.excs.length)) && chkSs k io b body
      | _ => false)
    | none => false)
def chkSs (k : Ck) (io : List Nat) : List S → List Stmt → Bool
  | [], sts => sts.isEmpty
  | s :: ss, sts => if isFrz s then chkSs k io ss sts else (match sts with | st :: sts => chkS k io s st && chkSs k io ss sts | [] => false)
end
section
variable {c : Cc} {io : List Nat}
theorem chkP_ok {p : Pth} {a : Expr} (h : chkP c.ck p a = true) : PthA c p a := by
  unfold chkP at h
  split at h
  · split at h
    · obtain ⟨h1, h2, h3, h4⟩ := visB_of h
      exact .v h1 h2 h3 h4
    · cases h
  · split at h
    · simp only [Bool.and_eq_true] at h
      obtain ⟨⟨g1, g2⟩, g3⟩ := h
      obtain ⟨h1, h2, h3, h4⟩ := visB_of g1
      rw [← eq_of_beq g3]
      exact .a h1 h2 h3 h4 (of_decide_eq_true g2)
    · cases h
theorem io_of {i : Nat} (h : (!io.contains i) = true) : i ∉ io := by simpa using h
theorem chkT1_ok {t : T} {a : Expr} {e : E} (h : chkT1 c.ck io t a = true) : GT c io a t e ∧ okG a = true := by
  unfold chkT1 at h
  split at h
  · split at h
    · obtain ⟨h1, h2⟩ := Bool.and_eq_true_iff.mp h
      obtain ⟨h3, h4⟩ := locBB_of h1
      exact ⟨gt_nm h3 h4 (io_of h2), rfl⟩
    · cases h
  · split at h
    · simp only [Bool.and_eq_true] at h
      obtain ⟨⟨h1, h2⟩, h3⟩ := h
      exact ⟨gt_sub (chkP_ok h1) ((chkE_ok c false _ _ h3).1 rfl) h2, rfl⟩
    · cases h
  · cases h
theorem chkTs_ok : ∀ (ts : List T) (as : List Expr), chkTs c.ck io ts as = true → GTz c io as ts ∧ (∀ a ∈ as, okG a = true) ∧ ts.length = as.length
  | [], as, h => by
    simp only [chkTs] at h
    cases as with
    | nil => exact ⟨gtz_nil, fun a h => (by cases h), rfl⟩
    | cons _ _ => simp at h
  | t :: ts, as, h => by
    simp only [chkTs] at h
    split at h
    · obtain ⟨h1, h2⟩ := Bool.and_eq_true_iff.mp h
      obtain ⟨k1, k2, k3⟩ := chkTs_ok ts _ h2
      have g := chkT1_ok (e := .lit .non) h1
      exact ⟨gtz_cons g.1 g.2 k1, fun x hx => by rcases List.mem_cons.mp hx with rfl | hx; exact g.2; exact k2 x hx, by simp [k3]⟩
    · cases h
theorem chkN_ok : ∀ (is : List Nat) (as : List Expr), chkN c.ck io is as = true → Nms c io as is
  | [], as, h => by
    simp only [chkN] at h
    cases as with
    | nil => exact .nil
    | cons _ _ => simp at h
  | i :: is, as, h => by
    simp only [chkN] at h
    split at h
    · obtain ⟨h1, h2⟩ := Bool.and_eq_true_iff.mp h
      split at h1
      · obtain ⟨g1, g2⟩ := Bool.and_eq_true_iff.mp h1
        obtain ⟨h3, h4⟩ := locBB_of g1
        exact .cons h3 h4 (io_of g2) (chkN_ok is _ h2)
      · cases h1
    · cases h
theorem noComp_sw {a : Expr} (h : noComp a = true) (t : Option Expr) (l : Nat) (env : PySem.Env) : swapsWith a t l env = pure false := by
  cases a <;> first | rfl | (simp [noComp] at h; done)
theorem sw_cell {a : Expr} {x : Str} {p : Pos} {l : Nat} {env : PySem.Env} (h : env.scope.names.lookup x = some .cell) : swapsWith a (some (.Name x p)) l env = pure false := by
  have e : (env.kindOf x == some .local) = false := by
    show (env.scope.names.lookup x == some .local) = false
    rw [h]
    rfl
  cases a with
  | ListComp elt gs scope pos =>
    show (pure (env.blockKind == .function && env.kindOf x == some .local && p.line == pos.line && !(scope.names.any fun (n, k) => n == x && (k == .local || k == .cell))) : Sem Bool) = pure false
    rw [e]
    simp
  | SetComp elt gs scope pos =>
    show (pure (env.blockKind == .function && env.kindOf x == some .local && p.line == pos.line && !(scope.names.any fun (n, k) => n == x && (k == .local || k == .cell))) : Sem Bool) = pure false
    rw [e]
    simp
  | DictComp ke v gs scope pos =>
    show (pure (env.blockKind == .function && env.kindOf x == some .local && p.line == pos.line && !(scope.names.any fun (n, k) => n == x && (k == .local || k == .cell))) : Sem Bool) = pure false
    rw [e]
    simp
  | _ => rfl
theorem swNone_ok {tas as : List Expr} (h : swNone c.ck tas as = true) (hs : ∀ z ∈ as, okH z = true) {k k2 : Nat} {kp p2 : Pos} : ∀ env : PySem.Env, env.scope = c.sc → swappedStores [.Tuple tas k kp] (.Tuple as k2 p2) env = pure none := fun env he => by
  unfold swNone at h
  simp only [Bool.and_eq_true] at h
  obtain ⟨⟨⟨h1, h2⟩, h3⟩, h4⟩ := h
  exact (sw_eq (by rw [he]; exact of_decide_eq_true h1) hs (of_decide_eq_true h2) (of_decide_eq_true h3) rfl (ns := nms c.ck tas) (by rw [he]; rfl)).1 (of_decide_eq_true h4)
theorem swSome_ok {tas as : List Expr} (h : swSome c.ck tas as = true) (h3 : tas.length = 2 ∨ tas.length = 3) (hs : ∀ z ∈ as, okH z = true) {k k2 : Nat} {kp p2 : Pos} : ∀ env : PySem.Env, env.scope = c.sc → swappedStores [.Tuple tas k kp] (.Tuple as k2 p2) env = pure (some (nms c.ck tas)) := fun env he => by
  unfold swSome at h
  simp only [Bool.and_eq_true] at h
  obtain ⟨⟨⟨⟨⟨h1, h2⟩, h4⟩, h5⟩, h6⟩, h7⟩ := h
  exact (sw_eq (by rw [he]; exact of_decide_eq_true h1) hs (of_decide_eq_true h2) h3 rfl (ns := nms c.ck tas) (by rw [he]; rfl)).2 (of_decide_eq_true h4) (of_decide_eq_true h5) (by simpa using h6) (by simpa using h7)
end
end Pd

end
section
set_option linter.all false
set_option autoImplicit false
set_option Elab.async false
set_option maxRecDepth 100000
/-! Pd.ChkSOk: the statement checker is sound. -/
namespace Pd
open PySem PySem.Spec PyProof.Rows L2
section
variable {c : Cc} {io : List Nat}
theorem asg_lc {i : Nat} {x : Str} {p pos : Pos} {a : Expr} {e : E} (h1 : chkE c.ck false e a = true) (h2 : swapB c.ck x p a = true) (hx : c.N[i]? = some x) (hio : i ∉ io) : SS c io (.Assign [.Name x p] a pos) (.asg (.nm i) e) := by
  unfold swapB at h2
  split at h2
  · rename_i x0 gens scope cp
    simp only [Bool.and_eq_true] at h2
    obtain ⟨⟨⟨s1, s2⟩, s3⟩, s4⟩ := h2
    cases e with
    | comp elt tg it ifs own =>
      simp only [chkE] at h1
      split at h1
      · rename_i x1 t it0 fs scope2 p1 heq
        cases heq
        simp only [Bool.and_eq_true] at h1
        obtain ⟨h0, ⟨⟨⟨⟨⟨⟨h1, h2⟩, h3⟩, h4⟩, h5⟩, h6⟩, h7⟩, h8⟩ := h1
        have e1 : (ownN c.ck own).map (·.2) = own := eq_of_beq h1
        have e3 : ∀ j ∈ tgv tg, j ∈ (ownN c.ck own).map (·.2) := fun j hj => by rw [e1]; exact List.contains_iff_mem.mp (List.all_eq_true.mp h3 j hj)
        have q := ss_asg_lc (io := io) (i := i) (x := x) (p := p) (cpos := cp) (pos := pos) h2 e3 h4 (chkI_ok c (isTupE t) it it0 t id h5).1 (chkG_ok (c := c.blk scope) tg t h6) (chkF_ok (c.blk scope) ifs fs h7) ((chkE_ok (c.blk scope) false elt x0 h8).1 rfl) hx (eq_of_beq s2) hio (of_decide_eq_true s1) s3 (by simpa using s4)
        rw [e1] at q
        exact q
      · simp at h1
    | lit d => simp [chkE, litC] at h1
    | _ => simp [chkE] at h1
  · cases h2
theorem frz_cons {s : S} {ss : List S} {sts : List Stmt} (hf : isFrz s = true) (h : SSs c io sts ss) : SSs c io sts (s :: ss) := by
  cases s <;> first | exact sss_frz h | (simp [isFrz] at hf; done)
theorem nms_some {sc : Scope} {l : Nat} {x : Str} {p : Pos} {y : Str} (h : nmL sc l (.Name x p) = some y) : y = x := by
  unfold nmL at h
  dsimp only at h
  split at h
  · exact (Option.some.inj h).symm
  · cases h
theorem nms2 {x y : Str} {px py : Pos} (h : (nms c.ck [.Name x px, .Name y py]).length = ([.Name x px, .Name y py] : List Expr).length) : nms c.ck [.Name x px, .Name y py] = [x, y] := by
  unfold nms at h ⊢
  simp only [List.filterMap_cons, List.filterMap_nil] at h ⊢
  cases e1 : nmL c.ck.sc (lineOf [Expr.Name x px, Expr.Name y py]) (.Name x px) <;> cases e2 : nmL c.ck.sc (lineOf [Expr.Name x px, Expr.Name y py]) (.Name y py) <;> simp [e1, e2] at h ⊢
  exact ⟨nms_some e1, nms_some e2⟩
theorem nms3 {x y z : Str} {px py pz : Pos} (h : (nms c.ck [.Name x px, .Name y py, .Name z pz]).length = ([.Name x px, .Name y py, .Name z pz] : List Expr).length) : nms c.ck [.Name x px, .Name y py, .Name z pz] = [x, y, z] := by
  unfold nms at h ⊢
  simp only [List.filterMap_cons, List.filterMap_nil] at h ⊢
  cases e1 : nmL c.ck.sc (lineOf [Expr.Name x px, Expr.Name y py, Expr.Name z pz]) (.Name x px) <;> cases e2 : nmL c.ck.sc (lineOf [Expr.Name x px, Expr.Name y py, Expr.Name z pz]) (.Name y py) <;> cases e3 : nmL c.ck.sc (lineOf [Expr.Name x px, Expr.Name y py, Expr.Name z pz]) (.Name z pz) <;> simp [e1, e2, e3] at h ⊢
  exact ⟨nms_some e1, nms_some e2, nms_some e3⟩
mutual
theorem chkS_ok : ∀ (s : S) (st : Stmt), chkS c.ck io s st = true → SS c io st s
  | .frz _, st, h => by simp [chkS] at h
  | .ex e, st, h => by
    simp only [chkS] at h
    split at h
    · obtain ⟨h1, h2⟩ := Bool.and_eq_true_iff.mp h
      exact ss_ex ((chkE_ok c false e _ h1).1 rfl) fun env l => noComp_sw h2 _ _ _
    · cases h
  | .asg t e, st, h => by
    simp only [chkS] at h
    split at h
    · rename_i b a p0
      split at h
      · rename_i i
        split at h
        · rename_i x p
          simp only [Bool.and_eq_true, Bool.or_eq_true] at h
          obtain ⟨⟨⟨h1, h2⟩, h3⟩, h4⟩ := h
          obtain ⟨g1, g2⟩ := locBB_of h1
          have k := (chkE_ok c false e _ h3).1 rfl
          rcases h4 with (h4 | h4) | h4
          · exact ss_asg_nm g1 g2 (io_of h2) k fun env l _ => noComp_sw h4 _ _ _
          · exact asg_lc h3 h4 g1 (io_of h2)
          · exact ss_asg_nm g1 g2 (io_of h2) k fun env l he => sw_cell (by rw [he]; exact eq_of_beq h4)
        · cases h
      · rename_i i f
        split at h
        · simp only [Bool.and_eq_true] at h
          obtain ⟨⟨⟨h1, h2⟩, h3⟩, h4⟩ := h
          obtain ⟨g1, g2, g3, g4⟩ := visB_of h1
          rw [← eq_of_beq h3]
          exact ss_fld g1 g2 g3 g4 (of_decide_eq_true h2) ((chkE_ok c false e _ h4).1 rfl)
        · cases h
      · rename_i p j
        obtain ⟨h1, h2⟩ := Bool.and_eq_true_iff.mp h
        have g := chkT1_ok (e := e) h1
        have k := (chkE_ok c false e _ h2).1 rfl
        unfold chkT1 at h1
        dsimp only at h1
        split at h1
        · refine ss_asg k g.1 rfl (fun env l => ?_) fun env => rfl
          cases a <;> rfl
        · cases h1
      · rename_i ts
        split at h
        · rename_i tas k2 tp
          simp only [Bool.and_eq_true] at h
          obtain ⟨⟨h1, h2⟩, h3⟩ := h
          obtain ⟨q1, q2, q3⟩ := chkTs_ok ts tas h1
          refine ss_asg ((chkE_ok c false e _ h3).1 rfl) (gt_tu q1 q2 q3) rfl (fun env l => ?_) fun env => ?_
          · cases a <;> rfl
          · cases a <;> first | rfl | (simp [noTup] at h2; done)
        · cases h
    · cases h
  | .par is es, st, h => by
    simp only [chkS] at h
    split at h
    · rename_i tas k1 tp as k2 p2 pos
      simp only [Bool.and_eq_true] at h
      obtain ⟨⟨h1, h2⟩, h3⟩ := h
      have n := chkN_ok is tas h1
      have ar := chkEs_ok c es as h2
      obtain ⟨m1, m2, m3⟩ := nms_io n
      have gen : tas.length ≤ 1000 → swNone c.ck tas as = true → SS c io (.Assign [.Tuple tas k1 tp] (.Tuple as k2 p2) pos) (.par is es) := fun hz hn => ss_par ar.sk n (swNone_ok hn ar.hd) hz
      split at h3
      · rename_i i j x px y py
        simp only [Bool.or_eq_true, Bool.and_eq_true] at h3
        rcases h3 with h3 | ⟨⟨⟨h3, h4⟩, h5⟩, h6⟩
        · exact gen (by simp) h3
        · have sw := swSome_ok (k := k1) (k2 := k2) (kp := tp) (p2 := p2) h3 (.inl rfl) ar.hd
          have hn : nms c.ck [.Name x px, .Name y py] = [x, y] := by
            unfold swSome at h3
            simp only [Bool.and_eq_true] at h3
            exact nms2 (of_decide_eq_true h3.1.1.1.2)
          rw [hn] at sw
          have hlen : as.length = 2 := by
            unfold swSome at h3
            simp only [Bool.and_eq_true] at h3
            exact of_decide_eq_true h3.1.1.1.1.2
          match as, hlen, ar, sw with
          | [a, b], _, ar, sw =>
            cases n with
            | cons n1 n2 n3 n4 =>
              cases n4 with
              | cons n5 n6 n7 n8 =>
                exact ss_par2 ar.sk n1 n5 (of_decide_eq_true h4) (eq_of_beq h5) (eq_of_beq h6) ⟨n3, n7⟩ sw
      · rename_i i j l x px y py z pz
        simp only [Bool.or_eq_true, Bool.and_eq_true] at h3
        rcases h3 with h3 | ⟨⟨⟨⟨h3, h4⟩, h5⟩, h6⟩, h7⟩
        · exact gen (by simp) h3
        · have sw := swSome_ok (k := k1) (k2 := k2) (kp := tp) (p2 := p2) h3 (.inr rfl) ar.hd
          have hn : nms c.ck [.Name x px, .Name y py, .Name z pz] = [x, y, z] := by
            unfold swSome at h3
            simp only [Bool.and_eq_true] at h3
            exact nms3 (of_decide_eq_true h3.1.1.1.2)
          rw [hn] at sw
          have hlen : as.length = 3 := by
            unfold swSome at h3
            simp only [Bool.and_eq_true] at h3
            exact of_decide_eq_true h3.1.1.1.1.2
          obtain ⟨u1, u2, u3⟩ := of_decide_eq_true h4
          match as, hlen, ar, sw with
          | [a, b, d], _, ar, sw =>
            cases n with
            | cons n1 n2 n3 n4 =>
              cases n4 with
              | cons n5 n6 n7 n8 =>
                cases n8 with
                | cons n9 n10 n11 n12 =>
                  exact ss_par3 ar.sk n1 n5 n9 u1 u2 u3 (eq_of_beq h5) (eq_of_beq h6) (eq_of_beq h7) ⟨n3, n7, n11⟩ sw
      · cases h3
    · cases h
  | .parz ts es, st, h => by
    simp only [chkS] at h
    split at h
    · rename_i tas k1 tp as k2 p2 pos
      simp only [Bool.and_eq_true] at h
      obtain ⟨⟨h1, h2⟩, h3⟩ := h
      obtain ⟨q1, q2, q3⟩ := chkTs_ok ts tas h1
      have ar := chkEs_ok c es as h2
      have hz : tas.length ≤ 1000 := by
        unfold swNone at h3
        simp only [Bool.and_eq_true] at h3
        have := of_decide_eq_true h3.1.2
        omega
      exact ss_parz ar.sa q1 q2 q3 hz (swNone_ok h3 ar.hd)
    · cases h
  | .aug _ _ _, st, h => by simp [chkS] at h
  | .augs _ _ _ _, st, h => by simp [chkS] at h
  | .app p e, st, h => by
    simp only [chkS] at h
    split at h
    · simp only [Bool.and_eq_true] at h
      obtain ⟨⟨⟨⟨h1, h2⟩, h3⟩, h4⟩, h5⟩ := h
      rw [eq_of_beq h1]
      exact ss_app (chkP_ok h3) ((chkE_ok c false e _ h5).1 rfl) h4 h2 trivial
    · cases h
  | .ext p e, st, h => by
    simp only [chkS] at h
    split at h
    · simp only [Bool.and_eq_true] at h
      obtain ⟨⟨⟨⟨h1, h2⟩, h3⟩, h4⟩, h5⟩ := h
      rw [eq_of_beq h1]
      exact ss_ext (chkP_ok h3) ((chkE_ok c false e _ h5).1 rfl) h4 h2
    · cases h
  | .pop _ _, st, h => by simp [chkS] at h
  | .popx _, st, h => by simp [chkS] at h
  | .sda _ _ _, st, h => by simp [chkS] at h
  | .if_ x p q, st, h => by
    simp only [chkS] at h
    split at h
    · simp only [Bool.and_eq_true] at h
      obtain ⟨⟨h1, h2⟩, h3⟩ := h
      exact ss_if ((chkE_ok c true x _ h1).2 rfl) (chkSs_ok p _ h2) (chkSs_ok q _ h3)
    · cases h
  | .for_ tg it b, st, h => by
    simp only [chkS] at h
    split at h
    · simp only [Bool.and_eq_true] at h
      obtain ⟨⟨⟨⟨h1, h2⟩, h3⟩, h4⟩, h5⟩ := h
      exact ss_for h1 (chkI_ok c _ it _ _ id h2).2 (chkG_ok tg _ h3) (fun i hi => by simpa using List.all_eq_true.mp h4 i hi) (chkSs_ok b _ h5)
    · cases h
  | .whl is x b, st, h => by
    simp only [chkS] at h
    split at h
    · obtain ⟨h1, h2⟩ := Bool.and_eq_true_iff.mp h
      exact ss_whl ((chkE_ok c true x _ h1).2 rfl) (chkSs_ok b _ h2)
    · cases h
  | .ret e, st, h => by
    simp only [chkS] at h
    split at h
    · exact ss_ret ((chkE_ok c false e _ h).1 rfl)
    · cases h
  | .retv i, st, h => by
    simp only [chkS] at h
    split at h
    · obtain ⟨g1, g2, g3, g4⟩ := visB_of h
      exact ss_retv g1 g2 g3 g4
    · cases h
  | .retn, st, h => by
    simp only [chkS] at h
    split at h
    · exact ss_retn
    · cases h
  | .brk, st, h => by
    simp only [chkS] at h
    split at h
    · exact ss_brk
    · cases h
  | .cnt, st, h => by
    simp only [chkS] at h
    split at h
    · exact ss_cnt
    · cases h
  | .pas, st, h => by
    simp only [chkS] at h
    split at h
    · exact ss_pas
    · cases h
  | .rse i, st, h => by
    simp only [chkS] at h
    split at h
    · simp only [Bool.and_eq_true] at h
      obtain ⟨⟨h1, h2⟩, h3⟩ := h
      obtain ⟨g1, g2⟩ := glB_of h3
      have e2 : c.g.p.excN i = _ := eq_of_beq h2
      rw [← e2] at g1 g2 ⊢
      exact ss_rse (of_decide_eq_true h1) g1 g2
    · cases h
  | .try_ b hs, st, h => by
    simp only [chkS] at h
    split at h
    · rename_i x l2 e
      rw [tryH_eq e]
      split at h
      · simp only [Bool.and_eq_true] at h
        obtain ⟨⟨h1, h2⟩, h3⟩ := h
        unfold tryA at h1
        simp only [Bool.and_eq_true] at h1
        obtain ⟨⟨⟨⟨⟨⟨⟨⟨⟨⟨⟨a1, a2⟩, a3⟩, a4⟩, a5⟩, a6⟩, a7⟩, a8⟩, a9⟩, a10⟩, a11⟩, a12⟩ := h1
        obtain ⟨v1, v2, v3, v4⟩ := visB_of a11
        obtain ⟨g1, g2⟩ := glB_of a4
        obtain ⟨g3, g4⟩ := glB_of a10
        obtain ⟨g5, g6⟩ := glB_of a6
        have e3 : c.g.p.excN 0 = _ := eq_of_beq a3
        have e5 := eq_of_beq a5
        have e8 := eq_of_beq a8
        have e9 : c.g.p.excN x = _ := eq_of_beq a9
        rw [e5] at g5 ⊢
        rw [e8]
        rw [← e3] at g1 g2 ⊢
        rw [← e9] at g3 g4 ⊢
        exact ss_try_is (of_decide_eq_true a1) (of_decide_eq_true a2) v1 (eq_of_beq a12) v3 v4 g1 g2 g3 g4 (of_decide_eq_true a7) g5 (fun j hj => of_decide_eq_true (List.all_eq_true.mp h2 j hj)) (chkSs_ok b _ h3)
      · cases h
    · cases h
theorem chkSs_ok : ∀ (ss : List S) (sts : List Stmt), chkSs c.ck io ss sts = true → SSs c io sts ss
  | [], sts, h => by
    simp only [chkSs] at h
    cases sts with
    | nil => exact sss_nil
    | cons _ _ => simp at h
  | s :: ss, sts, h => by
    simp only [chkSs] at h
    split at h
    · rename_i hf
      exact frz_cons hf (chkSs_ok ss sts h)
    · split at h
      · obtain ⟨h1, h2⟩ := Bool.and_eq_true_iff.mp h
        exact sss_cons (chkS_ok s _ h1) (chkSs_ok ss _ h2)
      · cases h
end
end
end Pd

end
section
set_option linter.all false
set_option autoImplicit false
set_option Elab.async false
set_option maxRecDepth 100000
/-! Pd.Top1: functions keep their promises. -/
namespace Pd
open PySem PySem.Spec PyProof.Rows L2
/-- what is asked of a function's text -/
def fnB (p : PrS) (fs : FnS) : Bool := chkSs ⟨p, fs.N, fs.sc, fun _ => true⟩ fs.fi.io fs.fi.body fs.body && (fs.fi.np == fs.ps.length) && (fs.fi.nn == fs.N.length) && decide (fs.fi.io.Nodup) && (fs.fi.io.all fun i => decide (i < fs.fi.np))
structure FnChk (g : G) (f : Nat) (fs : FnS) : Prop where
  ok : fnB g.p fs = true
  st : ∃ x qual params, FunD g.K x qual params fs.body fs.sc [] [] (g.fA f) (g.fD f) ∧ FnScope fs.N fs.ps fs.sc
def progOf (p : PrS) : List FnI := p.fns.map (·.fi)
section
variable {g : G} {F H : Hp}
theorem ownSv_get : ∀ {vs : List V} {ss : List SV} {fqs : List (List Addr)} {i : Nat} {s : SV}, OwnSv g F H vs ss fqs → ss[i]? = some s → ∃ v, vs[i]? = some v ∧ OwnS g F H v s (fqs.getD i [])
  | _, _, _, _, _, .nil, e => by simp at e
  | _, _, _, 0, _, .cons o _, e => by simp at e; subst e; exact ⟨_, rfl, o⟩
  | _, _, _, i + 1, _, .cons _ t, e => by
    obtain ⟨v, h1, h2⟩ := ownSv_get (i := i) t (by simpa using e)
    exact ⟨v, by simpa using h1, by simpa using h2⟩
theorem ownSv_lens : ∀ {vs : List V} {ss : List SV} {fqs : List (List Addr)}, OwnSv g F H vs ss fqs → vs.length = ss.length ∧ fqs.length = ss.length
  | _, _, _, .nil => ⟨rfl, rfl⟩
  | _, _, _, .cons _ t => ⟨congrArg (· + 1) (ownSv_lens t).1, congrArg (· + 1) (ownSv_lens t).2⟩
theorem flat_getD {α : Type} {fqs : List (List α)} {i : Nat} {a : α} (h : a ∈ fqs.getD i []) : a ∈ fqs.flatten := by
  rw [List.getD_eq_getElem?_getD] at h
  cases q : fqs[i]? with
  | none => rw [q] at h; simp at h
  | some l =>
    rw [q] at h
    exact List.mem_flatten.mpr ⟨l, List.mem_of_getElem? q, h⟩
theorem flat_nd {α : Type} : ∀ {fqs : List (List α)}, fqs.flatten.Nodup → (∀ i, (fqs.getD i []).Nodup) ∧ ∀ i j, i ≠ j → ∀ a ∈ fqs.getD i [], a ∉ fqs.getD j []
  | [], _ => ⟨fun i => by simp, fun i j _ a ha => by simp at ha⟩
  | l :: ls, h => by
    rw [List.flatten_cons] at h
    obtain ⟨h1, h2, h3⟩ := List.nodup_append.mp h
    obtain ⟨k1, k2⟩ := flat_nd h2
    refine ⟨fun i => ?_, fun i j hij a ha hb => ?_⟩
    · cases i with
      | zero => simpa using h1
      | succ i => simpa using k1 i
    · cases i with
      | zero =>
        cases j with
        | zero => exact hij rfl
        | succ j =>
          have ha : a ∈ l := by simpa using ha
          have hb : a ∈ ls.getD j [] := by simpa using hb
          exact h3 a ha a (flat_getD hb) rfl
      | succ i =>
        have ha : a ∈ ls.getD i [] := by simpa using ha
        cases j with
        | zero =>
          have hb : a ∈ l := by simpa using hb
          exact h3 a hb a (flat_getD ha) rfl
        | succ j =>
          have hb : a ∈ ls.getD j [] := by simpa using hb
          exact k2 i j (fun z => hij (by rw [z])) a ha hb
theorem entry {vs : List V} {args : List SV} {fps : List (List Addr)} {N : List Str} {io : List Nat} (sb : Sub F H) (o : OwnSv g F H vs args fps) (nd : fps.flatten.Nodup) (non : ∀ a ∈ fps.flatten, F a = none) :
    EnvF g ⟨F, F, H, fps.flatten, io, L2.start N vs⟩ F H (args.map some ++ List.replicate (N.length - args.length) none) (L2.start N vs) (fun i => fps.getD i []) := by
  obtain ⟨l1, l2⟩ := ownSv_lens o
  obtain ⟨n1, n2⟩ := flat_nd nd
  refine ⟨?_, sb, fun i s e => ?_, fun i a ha => ?_, fun i a ha => non a (flat_getD ha), n1, n2, fun i a ha => .inl (flat_getD ha), fun a ob h n => ⟨h, rfl⟩, fun i hi => rfl, fun _ _ z => z⟩
  · unfold L2.start
    rw [List.length_append, List.length_append, List.length_map, List.length_map, List.length_replicate, List.length_replicate, l1]
  · by_cases hi : i < args.length
    · rw [List.getElem?_append_left (by rw [List.length_map]; exact hi), List.getElem?_map] at e
      obtain ⟨s', e1, e2⟩ := Option.map_eq_some_iff.mp e
      cases Option.some.inj e2
      obtain ⟨v, h1, h2⟩ := ownSv_get o e1
      refine ⟨v, ?_, h2⟩
      unfold L2.start
      rw [List.getElem?_append_left (by rw [List.length_map, l1]; exact hi), List.getElem?_map, h1]
      rfl
    · rw [List.getElem?_append_right (by rw [List.length_map]; omega), List.getElem?_replicate] at e
      split at e <;> simp at e
  · rw [List.getD_eq_getElem?_getD] at ha
    have hi : i < args.length := by
      rcases Nat.lt_or_ge i args.length with z | z
      · exact z
      · rw [List.getElem?_eq_none_iff.mpr (by omega)] at ha
        simp at ha
    obtain ⟨v, _, h2⟩ := ownSv_get (i := i) (s := args[i]) o (List.getElem?_eq_getElem hi)
    rw [List.getD_eq_getElem?_getD] at h2
    obtain ⟨ob, ho, _⟩ := h2.fp_some a ha
    exact ⟨ob, ho⟩
/-- the values of the slots that stay -/
theorem ios_own {B : Bs} {ρ : Env} {σ : L2.St} {fp : Nat → List Addr} {vs : List V} {N : List Str} (en : EnvF g B F H ρ σ fp) (hσ : B.σ0 = L2.start N vs) : ∀ {is : List Nat} {ss : List SV}, (∀ i ∈ is, i ∈ B.io) → (∀ i ∈ is, i < vs.length) → is.Nodup → iosOf ρ is = some ss →
    OwnSv g F H (is.map fun i => vs.getD i .non) ss (is.map fp) ∧ (is.map fp).flatten.Nodup ∧ ∀ a ∈ (is.map fp).flatten, ∃ i ∈ is, a ∈ fp i
  | [], ss, _, _, _, e => by
    unfold iosOf at e
    cases Option.some.inj e
    exact ⟨.nil, List.nodup_nil, fun a ha => (by cases ha)⟩
  | i :: is, ss, hi, hl, nd, e => by
    unfold iosOf at e
    split at e
    · rename_i s ss' e1 e2
      cases Option.some.inj e
      obtain ⟨k1, k2, k3⟩ := ios_own en hσ (is := is) (fun j hj => hi j (List.mem_cons_of_mem _ hj)) (fun j hj => hl j (List.mem_cons_of_mem _ hj)) (List.nodup_cons.mp nd).2 e2
      obtain ⟨v, h1, h2⟩ := en.own i s (getV_some e1)
      have hv : v = vs.getD i .non := by
        rw [en.slots i (hi i List.mem_cons_self), hσ] at h1
        unfold L2.start at h1
        have hli := hl i List.mem_cons_self
        rw [List.getElem?_append_left (by rw [List.length_map]; exact hli), List.getElem?_map, List.getElem?_eq_getElem hli] at h1
        rw [List.getD_eq_getElem?_getD, List.getElem?_eq_getElem hli]
        exact (Option.some.inj (Option.some.inj h1)).symm
      refine ⟨by rw [List.map_cons, List.map_cons, ← hv]; exact .cons h2 k1, ?_, fun a ha => ?_⟩
      · rw [List.map_cons, List.flatten_cons]
        refine List.nodup_append.mpr ⟨en.nd i, k2, fun a ha b hb z => ?_⟩
        obtain ⟨j, hj, hbj⟩ := k3 b hb
        have hne : i ≠ j := fun z => (List.nodup_cons.mp nd).1 (by rw [z]; exact hj)
        exact en.dj i j hne a ha (by rw [z]; exact hbj)
      · rw [List.map_cons, List.flatten_cons] at ha
        rcases List.mem_append.mp ha with z | z
        · exact ⟨i, List.mem_cons_self, z⟩
        · obtain ⟨j, hj, h⟩ := k3 a z
          exact ⟨j, List.mem_cons_of_mem _ hj, h⟩
    · cases e
end
theorem lvl_zero {g : G} {prog : List FnI} {k : Nat} (h : ∀ f fs, g.p.fns[f]? = some fs → FnChk g f fs) (hp : prog = progOf g.p) : Lvl g (M prog 0) k := fun f fs hf => ⟨fun vs H Q E z => by
    obtain ⟨F, args, fps, _, _, _, _, o⟩ := z
    exact o.elim, fun A outer s H args us vs Q E _ _ _ _ z => by
    obtain ⟨F, args, fps, _, _, _, _, o⟩ := z
    exact o.elim⟩
theorem lvl_succ {g : G} {n k : Nat} (lib : Lib g) (h : ∀ f fs, g.p.fns[f]? = some fs → FnChk g f fs) (L : Lvl g (M (progOf g.p) n) k) : Lvl g (M (progOf g.p) (n + 1)) (k + 2) := fun f fs hf => by
  obtain ⟨hb, x, qual, params, FF, S⟩ := h f fs hf
  unfold fnB at hb
  simp only [Bool.and_eq_true] at hb
  obtain ⟨⟨⟨⟨c1, c2⟩, c3⟩, c4⟩, c5⟩ := hb
  have c2 := eq_of_beq c2
  have c3 := eq_of_beq c3
  have c4 := of_decide_eq_true c4
  have hM : ∀ args, M (progOf g.p) (n + 1) f args = runFn (M (progOf g.p) n) fs.fi args := fun args => by
    show (match (progOf g.p)[f]? with | some fi => runFn (M (progOf g.p) n) fi args | none => RC.bad) = _
    have : (progOf g.p)[f]? = some fs.fi := by unfold progOf; rw [List.getElem?_map, hf]; rfl
    rw [this]
  have arity : ∀ {vs H Q E}, spF g (M (progOf g.p) (n + 1)) fs.fi.io f vs H Q E → vs.length = fs.ps.length := fun {vs H Q E} z => by
    obtain ⟨F, args, fps, _, o, _, _, ou⟩ := z
    rw [hM] at ou
    unfold runFn at ou
    split at ou
    · rename_i hz
      rw [(ownSv_lens o).1, hz.1, c2]
    · exact ou.elim
  refine FunD.ok FF S (fun vs H Q E z => arity z) fun cdv A outer s H vs Q E hr z => ?_
  have hlen := arity z
  obtain ⟨F, args, fps, sb, o, nd, non, ou⟩ := z
  rw [hM] at ou
  unfold runFn at ou
  split at ou
  · rename_i hz
    let X := cxOf (L2.CX g.P g.w) g.P g.w g.K g.mg g.base fs.N qual fs.sc (g.fA f) cdv A outer s H E
    let c : Cc := ⟨g, M (progOf g.p) n, k, fs.N, fs.sc, fun _ => true⟩
    refine ⟨WSs X fs.body, pss_wss, ?_⟩
    have okx : Okx c (fun cls d _ H => E cls d H) X := ⟨rfl, rfl, rfl, rfl, rfl, rfl, rfl, S.nd, rfl, fun _ _ => rfl, hr, takes_of rfl rfl rfl rfl, lib, L⟩
    have oks : OkS X := ⟨passes_of rfl, rfl, rfl⟩
    have en := entry (io := fs.fi.io) (N := fs.N) sb o nd non
    have hN : fs.fi.nn - fs.fi.np = fs.N.length - args.length := by rw [c3, hz.1]
    rw [hN] at ou
    refine chkSs_ok (c := c) fs.fi.body fs.body c1 _ X okx oks _ F H _ _ _ rfl ⟨_, en⟩ ?_
    show PRs g _ _ _ (exs (M (progOf g.p) n) fs.fi.body _)
    have io_lt : ∀ i ∈ fs.fi.io, i < vs.length := fun i hi => by
      rw [hlen, ← c2]
      exact of_decide_eq_true (List.all_eq_true.mp c5 i hi)
    have post : ∀ {F' H' ρ' σ' fp}, EnvF g ⟨F, F, H, fps.flatten, fs.fi.io, L2.start fs.N vs⟩ F' H' ρ' σ' fp → Post F H F' H' fps.flatten := fun {F' H' ρ' σ' fp} e => ⟨e.sub, fun a ob h n => e.keep a ob h n⟩
    cases q : exs (M (progOf g.p) n) fs.fi.body (args.map some ++ List.replicate (fs.N.length - args.length) none) with
    | bad => rw [q] at ou; exact ou.elim
    | exc ci ρ' =>
      rw [q] at ou
      dsimp only at ou
      split at ou
      · rename_i ss es
        rintro F' H' σ' ⟨fp, e⟩
        obtain ⟨k1, k2, k3⟩ := ios_own e rfl (fun i hi => hi) io_lt c4 es
        refine ou F' H' _ (post e) k1 k2 fun a ha => ?_
        obtain ⟨i, hi, h1⟩ := k3 a ha
        exact ⟨e.non i a h1, e.from_ i a h1⟩
      · exact ou.elim
    | ok fl =>
      rw [q] at ou
      cases fl with
      | bk ρ' => exact ou.elim
      | ct ρ' => exact ou.elim
      | nx ρ' =>
        dsimp only at ou
        split at ou
        · rename_i ss es
          rintro F' H' σ' ⟨fp, e⟩
          obtain ⟨k1, k2, k3⟩ := ios_own e rfl (fun i hi => hi) io_lt c4 es
          refine ou .non F' H' [] _ (post e) ⟨rfl, .non⟩ k1 (by simpa using k2) fun a ha => ?_
          obtain ⟨i, hi, h1⟩ := k3 a (by simpa using ha)
          exact ⟨e.non i a h1, e.from_ i a h1⟩
        · exact ou.elim
      | rt sv ρ' =>
        dsimp only at ou
        split at ou
        · rename_i ss es
          intro F' H' σ' fp v fq e o2 ap
          obtain ⟨k1, k2, k3⟩ := ios_own e rfl (fun i hi => hi) io_lt c4 es
          refine ou v F' H' fq _ (post e) o2 k1 (List.nodup_append.mpr ⟨ap.nd, k2, fun a ha b hb z => ?_⟩) fun a ha => ?_
          · obtain ⟨i, hi, h1⟩ := k3 b hb
            exact ap.dj i b h1 (by rw [← z]; exact ha)
          · rcases List.mem_append.mp ha with z | z
            · exact ⟨ap.non a z, ap.from_ a z⟩
            · obtain ⟨i, hi, h1⟩ := k3 a z
              exact ⟨e.non i a h1, e.from_ i a h1⟩
        · exact ou.elim
  · exact ou.elim
theorem lvl {g : G} (lib : Lib g) (h : ∀ f fs, g.p.fns[f]? = some fs → FnChk g f fs) : ∀ n, Lvl g (M (progOf g.p) n) (2 * n)
  | 0 => lvl_zero h rfl
  | n + 1 => lvl_succ lib h (lvl lib h n)
end Pd

end
section
set_option linter.all false
set_option autoImplicit false
set_option Elab.async false
set_option maxRecDepth 100000
/-! Pd.Top2: from the module's facts to the law. -/
namespace Pd
open PySem PySem.Spec PyProof.Rows L2
/-- a function of the text, its arguments too -/
structure FnX where
  fs : FnS
  args : Arguments
def defOf (x : FnX) : He.DefD := ⟨x.fs.at_, x.fs.name, x.fs.qual, x.args, x.fs.body, x.fs.sc, [], []⟩
def conF (q : Str × D) : List He.Fa := match q.2 with
  | .int i => [.int q.1 i]
  | .str s => [.str q.1 (strN s)]
  | _ => []
def faOf (p : PrS) : List He.Fa := p.cons.flatMap conF ++ p.bis.map He.Fa.free ++ (p.cls.flatMap fun x => He.Fa.glo x :: He.Fa.cls x :: p.flds.map (He.Fa.noat x)) ++ (p.excs.flatMap fun x => [He.Fa.glo x, He.Fa.exc x]) ++
  (p.fns.flatMap fun fs => match fs.at_.2 with
    | none => [He.Fa.glo fs.at_.1]
    | some m => if m = ("__init__" : Str) then [He.Fa.meth fs.at_.1 m, He.Fa.mkr fs.at_.1] else [He.Fa.meth fs.at_.1 m])
def scB (fs : FnS) : Bool := decide (fs.sc.kind = .function) && decide (fs.sc.isCoroutine = false) && decide (fs.sc.isGenerator = false) && decide (fs.N.Nodup) && decide (fs.N.take fs.ps.length = fs.ps) &&
  (fs.ps.all fun x => decide (fs.sc.names.lookup x = some .local ∨ fs.sc.names.lookup x = some .cell)) && (fs.sc.names.all fun y => decide (y.2 ≠ .free))
def fn1 (p : PrS) (fs : FnS) : Bool := fnB p fs && scB fs && (match fs.at_.2 with | none => true | some m => !p.flds.contains m && !(m == Str.empty))
def prB (p : PrS) : Bool := decide (p.flds.Nodup) && !p.flds.contains Str.empty && (p.cons.all fun q => match q.2 with | .int _ => true | .str s => decide (s.length ≤ lim) | _ => false) && p.fns.all (fn1 p)
theorem scB_ok {fs : FnS} (h : scB fs = true) : FnScope fs.N fs.ps fs.sc := by
  unfold scB at h
  simp only [Bool.and_eq_true] at h
  obtain ⟨⟨⟨⟨⟨⟨h1, h2⟩, h3⟩, h4⟩, h5⟩, h6⟩, h7⟩ := h
  exact ⟨of_decide_eq_true h1, of_decide_eq_true h2, of_decide_eq_true h3, of_decide_eq_true h4, of_decide_eq_true h5, fun x hx => of_decide_eq_true (List.all_eq_true.mp h6 x hx), fun y hy => of_decide_eq_true (List.all_eq_true.mp h7 y hy)⟩
/-- what is asked of the error classes -/
def excB (K : PySem.W.Frag) (D : Addr) : Bool := He.eqO (PySem.W.findIn K (.ref D) "__getattribute__") (some (some (.builtin "BaseException.__getattribute__"))) && (He.eqO (PySem.W.findIn K (.ref D) "__getattr__") (some none) && (decide (PySem.W.subIn K (.ref D) (.type "BaseException") = some true) && (PySem.W.hasDictIn K D && (He.eqO (PySem.W.findIn K (.ref D) "__class__") (some (some (.builtin "object.__class__"))) &&
  (He.eqO (PySem.W.specialIn K (.builtin "object.__class__") "__get__") (some (some (.builtin "getset_descriptor.__get__"))) && (decide (PySem.W.takesIn K (.builtin "object.__class__") = some true) && decide (PySem.W.mroIn K D (.type "object") = some true)))))))
theorem excB_ok {K : PySem.W.Frag} {D : Addr} (h : excB K D = true) : ExcC K D := by
  unfold excB at h
  simp only [Bool.and_eq_true] at h
  obtain ⟨h1, h2, h3, h4, h5, h6, h7, h8⟩ := h
  exact ⟨He.eqO_ok h1, He.eqO_ok h2, of_decide_eq_true h3, h4, He.eqO_ok h5, He.eqO_ok h6, of_decide_eq_true h7, of_decide_eq_true h8⟩
def exqB (p : PrS) (K : PySem.W.Frag) : Bool := (List.range p.excs.length).all fun i => excB K (He.ga K (p.excN i)) && (List.range p.excs.length).all fun j => decide (PySem.W.exmOne K (.ref (He.ga K (p.excN i))) (.ref (He.ga K (p.excN j))) = some (subX i j)) && decide (PySem.W.kitOne K (.ref (He.ga K (p.excN i))) (.ref (He.ga K (p.excN j))) = some (subX i j))
theorem exqB_ok {g : G} (h : exqB g.p g.K = true) : ExQ g := by
  unfold exqB at h
  rw [List.all_eq_true] at h
  have q := fun i (hi : i < g.p.excs.length) => Bool.and_eq_true_iff.mp (h i (List.mem_range.mpr hi))
  have r := fun i j (hi : i < g.p.excs.length) (hj : j < g.p.excs.length) => Bool.and_eq_true_iff.mp (List.all_eq_true.mp (q i hi).2 j (List.mem_range.mpr hj))
  exact ⟨fun i hi => excB_ok (q i hi).1, fun i j hi hj => of_decide_eq_true (r i j hi hj).1, fun i j hi hj => of_decide_eq_true (r i j hi hj).2⟩
/-- the head's look: the facts, and the error classes -/
abbrev AlE : Type := He.AlD × Bool
def obsE (n : Nat) (fa : List He.Fa) (fn : List He.DefD) (p : PrS) (g : Addr → Option Obj) : AlE := (He.obsDG n fa fn g, exqB p (He.frG g (He.asD g n)))
def hookE (n : Nat) (fa : List He.Fa) (fn : List He.DefD) (p : PrS) : PySem.W.Hook where
  α := AlE
  obs := fun s => obsE n fa fn p s.heap.get?
  val := fun _ => (He.valD fn, true)
  says := fun _ h => ∃ K : PySem.W.Frag, K.In h ∧ He.SaysD fa fn K ∧ exqB p K = true
  of := fun _ _ e => ⟨_, He.frG_in, congrArg (fun z : AlE => z.1) e, congrArg (fun z : AlE => z.2) e⟩
  keeps := fun _ _ _ ⟨K, hK, c⟩ k => ⟨K, PySem.W.Frag.In.keeps hK k, c⟩
theorem obsE_eq {n : Nat} {fa : List He.Fa} {fn : List He.DefD} {p : PrS} {g : Addr → Option Obj} {s : Shared} (h : ∀ a, g a = s.heap.get? a) : obsE n fa fn p g = (hookE n fa fn p).obs s := by
  have e : g = s.heap.get? := funext h
  rw [e] <;> rfl
/-- the arguments bind one by one -/
def BindOk (x : FnX) : Prop := ∀ (kV doc pm : Value) (an : Option Addr) (cdv ct : Value) (us : List Value), us.length = x.fs.ps.length → bindArgs (PySem.W.fnOf x.fs.name x.fs.qual x.args x.fs.body x.fs.sc .none kV doc pm an cdv ct) ⟨us, []⟩ = pure (x.fs.ps.zip us)
section
variable {p : PrS} {xs : List FnX} {K : PySem.W.Frag} {h : Heap} {mg : Str → Option Value}
theorem fact_mem {fn : List He.DefD} {fa : List He.Fa} (c : He.SaysD fa fn K) {f : He.Fa} (hf : f ∈ fa) : f.ok K = true := by
  obtain ⟨i, hi⟩ := List.mem_iff_getElem?.mp hf
  exact c.fact i hi
theorem lib_of (X : K.In h) (G0 : h.Ns mainGlobals mg) (c : He.SaysD (faOf p) (xs.map defOf) K) (cq : exqB p K = true) (hx : xs.map (·.fs) = p.fns) (hp : prB p = true) (hb : ∀ x ∈ xs, BindOk x) (g : G) (gp : g.p = p) (gK : g.K = K) (gm : g.mg = mg)
    (gA : ∀ f fs, p.fns[f]? = some fs → g.fA f = He.fAd K fs.at_) (gD : ∀ f x, xs[f]? = some x → FunD K x.fs.name x.fs.qual x.args x.fs.body x.fs.sc [] [] (He.fAd K x.fs.at_) (g.fD f)) : Lib g ∧ ∀ f fs, g.p.fns[f]? = some fs → FnChk g f fs := by
  subst gp gK gm
  unfold prB at hp
  simp only [Bool.and_eq_true] at hp
  obtain ⟨⟨⟨p1, p2⟩, p3⟩, p4⟩ := hp
  have fx : ∀ f fs, g.p.fns[f]? = some fs → ∃ x : FnX, xs[f]? = some x ∧ x.fs = fs := fun f fs hf => by
    rw [← hx, List.getElem?_map] at hf
    obtain ⟨x, h1, h2⟩ := Option.map_eq_some_iff.mp hf
    exact ⟨x, h1, h2⟩
  have F : ∀ f fs, g.p.fns[f]? = some fs → ∃ args, FunD g.K fs.name fs.qual args fs.body fs.sc [] [] (g.fA f) (g.fD f) ∧ ∃ x : FnX, x ∈ xs ∧ x.fs = fs ∧ x.args = args := fun f fs hf => by
    obtain ⟨x, h1, rfl⟩ := fx f fs hf
    exact ⟨x.args, by rw [gA f _ hf]; exact gD f x h1, x, List.mem_of_getElem? h1, rfl, rfl⟩
  have mem1 : ∀ {f}, f ∈ g.p.cons.flatMap conF → f ∈ faOf g.p := fun h => by unfold faOf; simp only [List.mem_append]; exact .inl (.inl (.inl (.inl h)))
  have mem2 : ∀ {f}, f ∈ g.p.bis.map He.Fa.free → f ∈ faOf g.p := fun h => by unfold faOf; simp only [List.mem_append]; exact .inl (.inl (.inl (.inr h)))
  have mem3 : ∀ {f}, f ∈ (g.p.cls.flatMap fun x => He.Fa.glo x :: He.Fa.cls x :: g.p.flds.map (He.Fa.noat x)) → f ∈ faOf g.p := fun h => by unfold faOf; simp only [List.mem_append]; exact .inl (.inl (.inr h))
  have mem4 : ∀ {f}, f ∈ (g.p.excs.flatMap fun x => [He.Fa.glo x, He.Fa.exc x]) → f ∈ faOf g.p := fun h => by unfold faOf; simp only [List.mem_append]; exact .inl (.inr h)
  have mem5 : ∀ {f fs}, fs ∈ g.p.fns → f ∈ (match fs.at_.2 with | none => [He.Fa.glo fs.at_.1] | some m => if m = ("__init__" : Str) then [He.Fa.meth fs.at_.1 m, He.Fa.mkr fs.at_.1] else [He.Fa.meth fs.at_.1 m]) → f ∈ faOf g.p := fun {f fs} h1 h2 => by
    unfold faOf; simp only [List.mem_append]; exact .inr (List.mem_flatMap.mpr ⟨fs, h1, h2⟩)
  have clsM : ∀ ci, ci < g.p.cls.length → g.p.clsN ci ∈ g.p.cls := fun ci hc => by
    unfold PrS.clsN
    rw [List.getD_eq_getElem?_getD, List.getElem?_eq_getElem hc]
    exact List.getElem_mem hc
  have excM : ∀ ci, ci < g.p.excs.length → g.p.excN ci ∈ g.p.excs := fun ci hc => by
    unfold PrS.excN
    rw [List.getD_eq_getElem?_getD, List.getElem?_eq_getElem hc]
    exact List.getElem_mem hc
  have fldM : ∀ ci, ci < g.p.flds.length → g.p.fld ci ∈ g.p.flds := fun ci hc => by
    unfold PrS.fld
    rw [List.getD_eq_getElem?_getD, List.getElem?_eq_getElem hc]
    exact List.getElem_mem hc
  refine ⟨⟨fun x d hm => ?_, fun x hm => He.free_ok X G0 (fact_mem c (mem2 (List.mem_map.mpr ⟨x, hm, rfl⟩))), fun ci hc => ⟨He.cls_ok (fact_mem c (mem3 (List.mem_flatMap.mpr ⟨_, clsM ci hc, by simp⟩))), fun f hf => He.noat_ok (fact_mem c (mem3 (List.mem_flatMap.mpr ⟨_, clsM ci hc, by simp only [List.mem_cons]; exact .inr (.inr (List.mem_map.mpr ⟨_, fldM f hf, rfl⟩))⟩)))⟩,
    ⟨of_decide_eq_true p1, by simpa using p2⟩, fun f fs hf hn => ?_, fun f fs hf => ?_, fun f fs m ci hf hm hc he => ?_, fun i hi => ?_, exqB_ok cq, fun f fs m ci hf hm hi hc he => ?_⟩, fun f fs hf => ?_⟩
  · have q := List.all_eq_true.mp p3 (x, d) hm
    cases d with
    | int i =>
      obtain ⟨t, ht⟩ := He.int_ok X G0 (fact_mem c (f := .int x i) (mem1 (List.mem_flatMap.mpr ⟨(x, .int i), hm, by simp [conF]⟩)))
      exact ⟨_, .int i, ht, ⟨t, rfl⟩, fun F => .int i⟩
    | str s =>
      obtain ⟨t, ht⟩ := He.str_ok X G0 (fact_mem c (f := .str x (strN s)) (mem1 (List.mem_flatMap.mpr ⟨(x, .str s), hm, by simp [conF]⟩)))
      exact ⟨_, .str (strN s), ht, ⟨t, rfl⟩, fun F => .str s (by rw [← lim_eq]; exact of_decide_eq_true q)⟩
    | _ => simp at q
  · obtain ⟨args, FF, _⟩ := F f fs hf
    refine ⟨?_, FF.kp⟩
    rw [gA f fs hf]
    have : He.fAd g.K fs.at_ = He.ga g.K fs.at_.1 := by unfold He.fAd; rw [hn]
    rw [this]
    exact He.glo_ok X G0 (fact_mem c (mem5 (List.mem_of_getElem? hf) (by rw [hn]; simp)))
  · obtain ⟨args, FF, x, hx1, rfl, rfl⟩ := F f fs hf
    exact FF.bindsN (hb x hx1)
  · have q := List.all_eq_true.mp p4 fs (List.mem_of_getElem? hf)
    unfold fn1 at q
    rw [hm] at q
    simp only [Bool.and_eq_true] at q
    refine ⟨?_, by simpa using q.2.1, by simpa using q.2.2⟩
    have e : g.fA f = He.ma g.K (He.ga g.K fs.at_.1) m := by
      rw [gA f fs hf]
      unfold He.fAd
      rw [hm]
    rw [e]
    have mm : (He.Fa.meth fs.at_.1 m).ok g.K = true := fact_mem c (mem5 (List.mem_of_getElem? hf) (by rw [hm]; dsimp only; split <;> simp))
    have r := He.meth_ok mm
    unfold G.cA
    rw [he]
    exact r
  · have g1 := He.exc_ok (x := g.p.excN i) (fact_mem c (f := .exc (g.p.excN i)) (mem4 (List.mem_flatMap.mpr ⟨_, excM i hi, by simp⟩)))
    exact ⟨⟨He.veBase, "ValueError", "ValueError.__new__", "ValueError.__init__", PySem.F.excBase_ValueError, g1.1⟩, He.glo_ok X G0 (fact_mem c (mem4 (List.mem_flatMap.mpr ⟨_, excM i hi, by simp⟩))), g1.2.1, g1.2.2.1, g1.2.2.2⟩
  · subst hi
    have e : g.fA f = He.ma g.K (He.ga g.K fs.at_.1) "__init__" := by
      rw [gA f fs hf]
      unfold He.fAd
      rw [hm]
    have mm : (He.Fa.mkr fs.at_.1).ok g.K = true := fact_mem c (mem5 (List.mem_of_getElem? hf) (by rw [hm]; simp))
    have r := He.mkr_ok mm
    unfold G.cA
    refine ⟨He.glo_ok X G0 (fact_mem c (mem3 (List.mem_flatMap.mpr ⟨_, clsM ci hc, by simp⟩))), ?_⟩
    rw [e, he]
    exact r
  · have q := List.all_eq_true.mp p4 fs (List.mem_of_getElem? hf)
    unfold fn1 at q
    simp only [Bool.and_eq_true] at q
    obtain ⟨args, FF, _⟩ := F f fs hf
    exact ⟨q.1.1, _, _, _, FF, scB_ok q.1.2⟩
/-- an exception's way out, in some world -/
def CXU (P : Program) : CXT := fun outer H s E u s' => ∃ w, L2.CX P w outer H s E u s'
theorem cxu {P : Program} {w : World} {K : PySem.W.Frag} {mg : Str → Option Value} {base : Heap} {k : Nat} {f : Addr} {fd : FuncData} {ps : List Str} {sp : Sp} (F : FnOk P w K mg base (L2.CX P w) k f fd ps sp) : FnOk P w K mg base (CXU P) k f fd ps sp :=
  ⟨F.len, fun A outer s H args us vs Q E hr he hb hv hs => codeAny_mono (F.run A outer s H args us vs Q E hr he hb hv hs) fun r s' x => by
    cases r with
    | error e => exact ⟨w, x⟩
    | ok fl => cases fl <;> exact x⟩
theorem cxu_no {P : Program} (H : Hp) (s : Shared) (e : Value) (s' : Shared) (h : CXU P [] H s (fun _ _ _ => False) e s') : False := by
  obtain ⟨w, a, B, H', cls, d, _, _, _, _, _, _, _, z⟩ := h
  exact z
/-- what the law promises -/
def spLaw (K : PySem.W.Frag) : Sp := fun vs H Q _ => ∃ (a : Addr) (ns : List Int), vs = [.ref a] ∧ ns.length ≤ 63 ∧ SqL K H a (ns.map V.int) ∧ ∀ H', Q (.bl true) H'
theorem facts {P : Program} {w : World} {n li : Nat} {lx : FnX} {x : Str} {f : Addr} (hx : xs.map (·.fs) = p.fns) (hp : prB p = true) (hb : ∀ x ∈ xs, BindOk x) (hl : xs[li]? = some lx) (hat : lx.fs.at_ = (("law" : Str), none)) (hps : lx.fs.ps = [x]) (hio : lx.fs.fi.io = [])
    (hev : ∀ ns : List Int, ns.length ≤ 63 → M (progOf p) n li [fz (.scr ns)] = .ok (fz (.bl true)) []) (X : K.In h) (G0 : h.Ns mainGlobals mg) (hfa : mg ("law" : Str) = some (.ref f)) (c : He.SaysD (faOf p) (xs.map defOf) K) (cq : exqB p K = true) :
    ∃ fd : FuncData, (∀ (s : Shared) (v : Value), BindsTo s fd ⟨[v], []⟩ [(x, v)]) ∧ ∀ base : Heap, K.In base → base.Ns mainGlobals mg → FnOk P w K mg base (CXU P) (2 * n) f fd [x] (spLaw K) := by
  have ex : ∀ i : Nat, ∃ fd : FuncData, ∀ y : FnX, xs[i]? = some y → FunD K y.fs.name y.fs.qual y.args y.fs.body y.fs.sc [] [] (He.fAd K y.fs.at_) fd := fun i => by
    cases q : xs[i]? with
    | none => exact ⟨default, fun y e => nomatch e⟩
    | some y =>
      obtain ⟨fd, F⟩ := c.def_ i (d := defOf y) (by rw [List.getElem?_map, q]; rfl)
      exact ⟨fd, fun y' e => by cases Option.some.inj e; exact F⟩
  let fD : Nat → FuncData := fun i => Classical.choose (ex i)
  have hD : ∀ (i : Nat) (y : FnX), xs[i]? = some y → FunD K y.fs.name y.fs.qual y.args y.fs.body y.fs.sc [] [] (He.fAd K y.fs.at_) (fD i) := fun i => Classical.choose_spec (ex i)
  let fA : Nat → Addr := fun i => match p.fns[i]? with | some fs => He.fAd K fs.at_ | none => 0
  have hlf : p.fns[li]? = some lx.fs := by rw [← hx, List.getElem?_map, hl]; rfl
  have eA : fA li = f := by
    have e1 : fA li = He.fAd K lx.fs.at_ := by show (match p.fns[li]? with | some fs => He.fAd K fs.at_ | none => 0) = _; rw [hlf]
    rw [e1]
    unfold He.fAd
    rw [hat]
    have e2 := He.glo_ok X G0 (x := "law") (fact_mem c (by
      unfold faOf
      simp only [List.mem_append]
      exact .inr (List.mem_flatMap.mpr ⟨lx.fs, List.mem_of_getElem? hlf, by rw [hat]; simp⟩)))
    rw [hfa] at e2
    injection (Option.some.inj e2) with e3
    exact e3.symm
  refine ⟨fD li, fun s v => ?_, fun base hKb hGb => ?_⟩
  · have := (hD li lx hl).bindsA (ps := lx.fs.ps) (hb lx (List.mem_of_getElem? hl)) s [v] (by rw [hps]; rfl)
    rw [hps] at this
    exact this
  · let g : G := ⟨P, w, K, mg, base, p, fA, fD⟩
    obtain ⟨lib, chk⟩ := lib_of (p := p) (xs := xs) X G0 c cq hx hp hb g rfl rfl rfl (fun i fs hf => by show (match p.fns[i]? with | some fs => He.fAd K fs.at_ | none => 0) = _; rw [hf]) hD
    have L := lvl lib chk n li lx.fs hlf
    have L : FnOk P w K mg base (L2.CX P w) (2 * n) (fA li) (fD li) lx.fs.ps (spF g (M (progOf p) n) lx.fs.fi.io li) := L
    rw [eA, hps] at L
    refine (cxu L).imp fun vs H Q E z => ?_
    obtain ⟨a, ns, rfl, hz, hS, hQ⟩ := z
    refine ⟨H, [fz (.scr ns)], [[]], fun a u e => .inl e, .cons ⟨rfl, .scr hS (by rw [← lim_eq]; unfold lim; omega)⟩ .nil, by simp, fun a ha => by simp at ha, ?_⟩
    rw [hev ns hz, hio]
    intro v F' H' fp fqs _ o _ _ _
    cases own_bl o
    exact hQ H'
end
end Pd

end
section
set_option linter.all false
set_option autoImplicit false
set_option Elab.async false
set_option maxRecDepth 100000
/-! Pd.Plain: words for plain laws: the evaluator by simp. -/
namespace Pd
section
variable {Φ : Phi} {ρ : Env} {e f g x : E} {es : List E} {s : S} {ss : List S}
@[simp] theorem ev_lit {d : D} : ev Φ (.lit d) ρ = .ok (fz d) := by first | (rw [ev]; done) | (rw [ev]; rfl)
@[simp] theorem ev_var {i : Nat} : ev Φ (.var i) ρ = (match ρ[i]? with | some (some s) => R.ok s | _ => .bad) := by first | (rw [ev]; done) | (rw [ev]; rfl)
@[simp] theorem ev_tup : ev Φ (.tup es) ρ = (evs Φ es ρ >>= fun ds => R.of (mkT ds)) := by first | (rw [ev]; done) | (rw [ev]; rfl)
@[simp] theorem ev_lst : ev Φ (.lst es) ρ = (evs Φ es ρ >>= fun ds => R.of (mkL ds)) := by first | (rw [ev]; done) | (rw [ev]; rfl)
@[simp] theorem ev_dnew : ev Φ .dnew ρ = .ok (.o (.dct [] [])) := by first | (rw [ev]; done) | (rw [ev]; rfl)
@[simp] theorem ev_bin {o : Bop} : ev Φ (.bin o e f) ρ = (ev Φ e ρ >>= fun a => ev Φ f ρ >>= fun b => R.of (binS o a b)) := by first | (rw [ev]; done) | (rw [ev]; rfl)
@[simp] theorem ev_cmp {o : Cop} : ev Φ (.cmp o e f) ρ = (ev Φ e ρ >>= fun a => ev Φ f ρ >>= fun b => R.of (cmpS o a b) >>= fun c => R.ok (fz (.bl c))) := by first | (rw [ev]; done) | (rw [ev]; rfl)
@[simp] theorem ev_chain {o p : Cop} : ev Φ (.chain o p e f g) ρ = (ev Φ e ρ >>= fun a => ev Φ f ρ >>= fun b => R.of (cmpS o a b) >>= fun r => if r then (ev Φ g ρ >>= fun z => R.of (cmpS p b z) >>= fun q => R.ok (fz (.bl q))) else R.ok (fz (.bl false))) := by first | (rw [ev]; done) | (rw [ev]; rfl)
@[simp] theorem ev_and' : ev Φ (.and e f) ρ = (ev Φ e ρ >>= fun a => boolS a >>= fun c => if c then ev Φ f ρ else R.ok (fz (.bl false))) := by first | (rw [ev]; done) | (rw [ev]; rfl)
@[simp] theorem ev_or' : ev Φ (.or e f) ρ = (ev Φ e ρ >>= fun a => boolS a >>= fun c => if c then R.ok (fz (.bl true)) else ev Φ f ρ) := by first | (rw [ev]; done) | (rw [ev]; rfl)
@[simp] theorem ev_not' : ev Φ (.not e) ρ = (ev Φ e ρ >>= fun a => boolS a >>= fun c => R.ok (fz (.bl (!c)))) := by first | (rw [ev]; done) | (rw [ev]; rfl)
@[simp] theorem ev_ite : ev Φ (.ite x e f) ρ = (ev Φ x ρ >>= fun a => boolS a >>= fun t => if t then ev Φ e ρ else ev Φ f ρ) := by first | (rw [ev]; done) | (rw [ev]; rfl)
@[simp] theorem ev_att {i : Nat} : ev Φ (.att e i) ρ = (ev Φ e ρ >>= fun a => R.of (attS a i)) := by first | (rw [ev]; done) | (rw [ev]; rfl)
@[simp] theorem ev_idx : ev Φ (.idx e f) ρ = (ev Φ e ρ >>= fun a => ev Φ f ρ >>= fun b => R.of (fr f b) >>= fun k => R.of (idxS a k)) := by first | (rw [ev]; done) | (rw [ev]; rfl)
@[simp] theorem ev_slc {lo hi : Option E} : ev Φ (.slc e lo hi) ρ = (ev Φ e ρ >>= fun a => evo Φ lo ρ >>= fun l => evo Φ hi ρ >>= fun h => R.of (cutS a l h)) := by first | (rw [ev]; done) | (rw [ev]; rfl)
@[simp] theorem ev_rev : ev Φ (.rev e) ρ = (ev Φ e ρ >>= fun a => R.of (revS a)) := by first | (rw [ev]; done) | (rw [ev]; rfl)
@[simp] theorem ev_call {k : Nat} : ev Φ (.call k es) ρ = (evs Φ es ρ >>= fun ds => callS (Φ k (ds.map fz))) := by first | (rw [ev]; done) | (rw [ev]; rfl)
@[simp] theorem ev_meth {c k : Nat} : ev Φ (.meth c k e es) ρ = (ev Φ e ρ >>= fun y => R.of (insOf c e y) >>= fun d => evs Φ es ρ >>= fun ds => callS (Φ k (fz d :: ds.map fz))) := by first | (rw [ev]; done) | (rw [ev]; rfl)
@[simp] theorem ev_mk {c k : Nat} : ev Φ (.mk c k es) ρ = (evs Φ es ρ >>= fun ds => makeS (Φ k (.ins c [] [] :: ds.map fz))) := by first | (rw [ev]; done) | (rw [ev]; rfl)
@[simp] theorem ev_bi1 {b : Bi} (h1 : b ≠ .lrng) (h2 : b ≠ .trng) : ev Φ (.bi b [e]) ρ = (ev Φ e ρ >>= fun a => R.of (bi1 b a)) := by
  cases b <;> first | (exact absurd rfl h1) | (exact absurd rfl h2) | (rw [ev, evb, evb]; cases ev Φ e ρ <;> rfl; done) | (rw [ev, evb, evb] <;> first | (cases ev Φ e ρ <;> rfl) | (intro h; cases h))
@[simp] theorem evs_nil : evs Φ [] ρ = .ok [] := by first | (rw [evs]; done) | (rw [evs]; rfl)
@[simp] theorem evs_cons : evs Φ (e :: es) ρ = (ev Φ e ρ >>= fun a => R.of (fr e a) >>= fun d => evs Φ es ρ >>= fun ds => R.ok (d :: ds)) := by first | (rw [evs]; done) | (rw [evs]; rfl)
@[simp] theorem evk_nil : evk Φ [] ρ = .ok [] := rfl
@[simp] theorem evk_cons : evk Φ (e :: es) ρ = (ev Φ e ρ >>= fun a => R.of (keepS e a) >>= fun d => evk Φ es ρ >>= fun ds => R.ok (d :: ds)) := rfl
@[simp] theorem evo_none : evo Φ none ρ = .ok none := by first | (rw [evo]; done) | (rw [evo]; rfl)
@[simp] theorem evi_seq : evi Φ (.seq e) ρ = (ev Φ e ρ >>= fun a => R.of (seqS a)) := by first | (rw [evi]; done) | (rw [evi]; rfl)
@[simp] theorem evi_rng : evi Φ (.rng es) ρ = (evs Φ es ρ >>= fun ds => R.of (rngS ds)) := by first | (rw [evi]; done) | (rw [evi]; rfl)
@[simp] theorem evif_seq : evif Φ (.seq e) ρ = (ev Φ e ρ >>= fun a => R.of (keepS e a) >>= fun k => R.of (seqS k)) := rfl
@[simp] theorem evif_rng : evif Φ (.rng es) ρ = (evs Φ es ρ >>= fun ds => R.of (rngS ds)) := rfl
@[simp] theorem evt_nil : evt Φ [] ρ = .ok true := by first | (rw [evt]; done) | (rw [evt]; rfl)
@[simp] theorem evt_one : evt Φ (e :: es) ρ = (ev Φ e ρ >>= boolS) := by first | (rw [evt]; done) | (rw [evt]; rfl)
@[simp] theorem boolS_bl {b : Bool} : boolS (fz (.bl b)) = .ok b := rfl
@[simp] theorem fr_fz {d : D} : fr e (fz d) = some d := rfl
@[simp] theorem fr_own {xs : List D} : fr e (oL xs) = if fresh e then some (.lst xs) else none := rfl
@[simp] theorem keepS_fz {d : D} : keepS e (fz d) = some (fz d) := rfl
@[simp] theorem keepS_own {xs : List D} : keepS e (oL xs) = if fresh e then some (oL xs) else none := rfl
@[simp] theorem insOf_fz {c : Nat} {ns : List Nat} {vs : List D} : insOf c e (fz (.ins c ns vs)) = some (.ins c ns vs) := by simp [insOf]
@[simp] theorem callS_ok {v : SV} : callS (.ok v []) = .ok v := rfl
@[simp] theorem callS_exc {c : Nat} : callS (.exc c []) = .exc c := rfl
@[simp] theorem exs_nil : exs Φ [] ρ = .ok (.nx ρ) := by first | (rw [exs]; done) | (rw [exs]; rfl)
@[simp] theorem exs_cons : exs Φ (s :: ss) ρ = RS.seq (ex Φ s ρ) fun ρ' => exs Φ ss ρ' := by first | (rw [exs]; done) | (rw [exs]; rfl)
@[simp] theorem ex_ret : ex Φ (.ret e) ρ = RS.of ρ (ev Φ e ρ) fun a => RS.of ρ (R.of (keepS e a)) fun k => .ok (.rt k ρ) := by first | (rw [ex]; done) | (rw [ex]; rfl)
@[simp] theorem ex_retv {i : Nat} : ex Φ (.retv i) ρ = (match getV ρ i with | some s => .ok (.rt s (ρ.set i none)) | none => .bad) := by first | (rw [ex]; done) | (rw [ex]; rfl)
@[simp] theorem ex_frz {is : List Nat} : ex Φ (.frz is) ρ = .ok (.nx (freeze ρ is)) := by first | (rw [ex]; done) | (rw [ex]; rfl)
@[simp] theorem ex_ex : ex Φ (.ex e) ρ = RS.of ρ (ev Φ e ρ) fun _ => .ok (.nx ρ) := by first | (rw [ex]; done) | (rw [ex]; rfl)
@[simp] theorem ex_if {p q : List S} : ex Φ (.if_ e p q) ρ = RS.of ρ (ev Φ e ρ >>= boolS) fun t => if t then exs Φ p ρ else exs Φ q ρ := by first | (rw [ex]; done) | (rw [ex]; rfl)
@[simp] theorem ex_rse {c : Nat} : ex Φ (.rse c) ρ = .exc c ρ := by first | (rw [ex]; done) | (rw [ex]; rfl)
@[simp] theorem ex_asg {t : T} : ex Φ (.asg t e) ρ = RS.of ρ (ev Φ e ρ) fun a => RS.of ρ (R.of (keepS e a)) fun k => RS.of ρ (asgT Φ e t k ρ) fun ρ' => .ok (.nx ρ') := by first | (rw [ex]; done) | (rw [ex]; rfl)
@[simp] theorem asgT_nm {i : Nat} {k : SV} : asgT Φ e (.nm i) k ρ = .ok (ρ.set i (some k)) := by first | (rw [asgT]; done) | (rw [asgT]; rfl)
@[simp] theorem ex_for {tg : Tg} {it : It} {b : List S} : ex Φ (.for_ tg it b) ρ = RS.of ρ (evif Φ it ρ) fun xs => loopF (fun x ρ1 => match bindTg tg x ρ1 with
    | none => .bad
    | some ρ2 => exs Φ b ρ2) xs ρ := by first | (rw [ex]; done) | (rw [ex]; rfl)
@[simp] theorem ex_app {p : Pth} : ex Φ (.app p e) ρ = (match getP p ρ with
    | some (.lst xs) => RS.of ρ (ev Φ e ρ) fun s => RS.of ρ (R.of (fr e s)) fun d => if xs.length < lim then .ok (.nx (setP p (.lst (xs ++ [d])) ρ)) else .bad
    | _ => .bad) := by first | (rw [ex]; done) | (rw [ex]; rfl)
@[simp] theorem ex_ext {p : Pth} : ex Φ (.ext p e) ρ = (match getP p ρ with
    | some (.lst xs) => RS.of ρ (ev Φ e ρ) fun s => RS.of ρ (R.of s.list?) fun ys => if xs.length + ys.length ≤ lim then .ok (.nx (setP p (.lst (xs ++ ys)) ρ)) else .bad
    | _ => .bad) := by first | (rw [ex]; done) | (rw [ex]; rfl)
@[simp] theorem R_of_some' {α : Type} (a : α) : R.of (some a) = .ok a := rfl
@[simp] theorem list_fz {xs : List D} : SV.list? (fz (.lst xs)) = some xs := rfl
@[simp] theorem list_own {xs : List D} : SV.list? (oL xs) = some xs := rfl
@[simp] theorem seq_lst {xs : List D} : seqS (fz (.lst xs)) = some xs := rfl
@[simp] theorem seq_own {xs : List D} : seqS (oL xs) = some xs := rfl
@[simp] theorem seq_tup {xs : List D} : seqS (fz (.tup xs)) = some xs := rfl
@[simp] theorem bindTg_nm {i : Nat} {d : D} : bindTg (.nm i) d ρ = some (ρ.set i (some (fz d))) := by first | (rw [bindTg]; done) | (rw [bindTg]; rfl)
/-- what a turn does -/
def turnC (Φ : Phi) (elt : E) (tg : Tg) (ifs : List E) (ρ0 : Env) (x : D) : R (Option D) := match bindTg tg x ρ0 with
  | none => .bad
  | some ρ' => (match evt Φ ifs ρ' with
    | .ok true => (match ev Φ elt ρ' with
      | .ok s => (match fr elt s with | some d => .ok (some d) | none => .bad)
      | _ => .bad)
    | .ok false => .ok none
    | _ => .bad)
theorem compL_map {α : Type} {f : D → R (Option D)} {enc : α → D} {p : α → Bool} {g : α → D} : ∀ {xs : List α}, (∀ x ∈ xs, f (enc x) = .ok (if p x then some (g x) else none)) → compL f (xs.map enc) = .ok ((xs.filter p).map g)
  | [], _ => rfl
  | x :: xs, h => by
    rw [List.map_cons]
    unfold compL
    rw [h x List.mem_cons_self]
    have ih := compL_map (f := f) (enc := enc) (p := p) (g := g) (xs := xs) fun y hy => h y (List.mem_cons_of_mem _ hy)
    cases hp : p x with
    | true => simp [hp, ih]
    | false => simp [hp, ih]
/-- a comprehension, by its turns -/
theorem ev_compf {α : Type} {elt : E} {tg : Tg} {it : It} {ifs : List E} {own : List Nat} {enc : α → D} {p : α → Bool} {g : α → D} {xs : List α} (h1 : evi Φ it ρ = .ok (xs.map enc)) (h2 : ∀ x ∈ xs, turnC Φ elt tg ifs (wipe ρ own) (enc x) = .ok (if p x then some (g x) else none)) :
    ev Φ (.comp elt tg it ifs own) ρ = .ok (oL ((xs.filter p).map g)) := by
  rw [ev, h1]
  show (compL (turnC Φ elt tg ifs (wipe ρ own)) (xs.map enc) >>= fun out => R.ok (oL out)) = _
  rw [compL_map h2]
  rfl
theorem ev_compm {α : Type} {elt : E} {tg : Tg} {it : It} {ifs : List E} {own : List Nat} {enc : α → D} {g : α → D} {xs : List α} (h1 : evi Φ it ρ = .ok (xs.map enc)) (h2 : ∀ x ∈ xs, turnC Φ elt tg ifs (wipe ρ own) (enc x) = .ok (some (g x))) :
    ev Φ (.comp elt tg it ifs own) ρ = .ok (oL (xs.map g)) := by
  have := ev_compf (p := fun _ => true) (g := g) h1 fun x hx => by rw [h2 x hx]; rfl
  rw [this, List.filter_eq_self.mpr (fun _ _ => rfl)]
/-- a for that goes on -/
theorem loopF_fold {α β : Type} {f : D → Env → RS} {enc : α → D} {st : β → Env} {step : β → α → β} (I : β → Prop) : ∀ {xs : List α} {b : β}, I b → (∀ b x, I b → x ∈ xs → I (step b x) ∧ f (enc x) (st b) = .ok (.nx (st (step b x)))) → loopF f (xs.map enc) (st b) = .ok (.nx (st (xs.foldl step b)))
  | [], b, _, _ => rfl
  | x :: xs, b, hb, h => by
    obtain ⟨h1, h2⟩ := h b x hb List.mem_cons_self
    rw [List.map_cons]
    unfold loopF
    rw [h2]
    exact loopF_fold I h1 fun c y hc hy => h c y hc (List.mem_cons_of_mem _ hy)
theorem M_succ (prog : List FnI) (n f : Nat) (args : List SV) {fi : FnI} (h : prog[f]? = some fi) : M prog (n + 1) f args = runFn (M prog n) fi args := by
  show (match prog[f]? with | some fi => runFn (M prog n) fi args | none => RC.bad) = _
  rw [h]
end
end Pd

end
section
set_option linter.all false
set_option autoImplicit false
set_option Elab.async false
/-! Pd.Cov: exact covers, and the search for them. Plain Lean. -/
namespace Pd.Cov
variable {δ γ : Type} [DecidableEq δ] [DecidableEq γ] (gs : δ → List γ)
def apart (d x : δ) : Bool := !(gs x).any fun y => decide (y ∈ gs d)
def going (left : List δ) (d : δ) : List δ := left.filter (apart gs d)
def still (goals : List γ) (d : δ) : List γ := goals.filter fun y => !decide (y ∈ gs d)
/-- w covers each goal just once, with what is left -/
structure IsCov (left : List δ) (goals : List γ) (w : List δ) : Prop where
  nod : w.Nodup
  sub : ∀ d ∈ w, d ∈ left
  all : ∀ g ∈ goals, ∃ d ∈ w, g ∈ gs d
  dis : ∀ d ∈ w, ∀ e ∈ w, d ≠ e → ∀ g ∈ gs d, g ∉ gs e
/-- what is left has just goals that are to come -/
structure Inv (left : List δ) (goals : List γ) : Prop where
  ne : ∀ d ∈ left, gs d ≠ []
  sub : ∀ d ∈ left, ∀ g ∈ gs d, g ∈ goals
variable {gs} {left : List δ} {goals : List γ}
theorem mem_going {d x : δ} : x ∈ going gs left d ↔ x ∈ left ∧ ∀ g ∈ gs x, g ∉ gs d := by
  unfold going apart
  rw [List.mem_filter, Bool.not_eq_true', List.any_eq_false]
  simp
theorem mem_still {d : δ} {g : γ} : g ∈ still gs goals d ↔ g ∈ goals ∧ g ∉ gs d := by
  unfold still
  rw [List.mem_filter]
  simp
theorem Inv.step (h : Inv gs left goals) (d : δ) : Inv gs (going gs left d) (still gs goals d) where
  ne x hx := h.ne x (mem_going.mp hx).1
  sub x hx g hg := mem_still.mpr ⟨h.sub x (mem_going.mp hx).1 g hg, (mem_going.mp hx).2 g hg⟩
theorem IsCov.cons (h : Inv gs left goals) {d : δ} {w : List δ} (hd : d ∈ left) (hw : IsCov gs (going gs left d) (still gs goals d) w) : IsCov gs left goals (d :: w) where
  nod := List.nodup_cons.mpr ⟨fun c => by
    have := (mem_going.mp (hw.sub d c)).2
    cases e : gs d with
    | nil => exact h.ne d hd e
    | cons g t =>
      rw [e] at this
      exact this g List.mem_cons_self List.mem_cons_self, hw.nod⟩
  sub x hx := by
    rcases List.mem_cons.mp hx with rfl | hx
    · exact hd
    · exact (mem_going.mp (hw.sub x hx)).1
  all g hg := by
    by_cases c : g ∈ gs d
    · exact ⟨d, List.mem_cons_self, c⟩
    · obtain ⟨x, hx, q⟩ := hw.all g (mem_still.mpr ⟨hg, c⟩)
      exact ⟨x, List.mem_cons_of_mem _ hx, q⟩
  dis x hx y hy ne g hg := by
    rcases List.mem_cons.mp hx with e | hx'
    · rcases List.mem_cons.mp hy with f | hy'
      · exact absurd (e.trans f.symm) ne
      · exact fun c => (mem_going.mp (hw.sub y hy')).2 g c (e ▸ hg)
    · rcases List.mem_cons.mp hy with f | hy'
      · exact f ▸ (mem_going.mp (hw.sub x hx')).2 g hg
      · exact hw.dis x hx' y hy' ne g hg
theorem IsCov.erase {w : List δ} (h : IsCov gs left goals w) {d : δ} (hd : d ∈ w) : IsCov gs (going gs left d) (still gs goals d) (w.erase d) where
  nod := h.nod.erase d
  sub x hx := by
    have q := (h.nod.mem_erase_iff).mp hx
    exact mem_going.mpr ⟨h.sub x q.2, fun g hg => h.dis x q.2 d hd q.1 g hg⟩
  all g hg := by
    obtain ⟨h1, h2⟩ := mem_still.mp hg
    obtain ⟨x, hx, q⟩ := h.all g h1
    exact ⟨x, (h.nod.mem_erase_iff).mpr ⟨fun e => h2 (e ▸ q), hx⟩, q⟩
  dis x hx y hy := h.dis x (List.mem_of_mem_erase hx) y (List.mem_of_mem_erase hy)
theorem IsCov.nil (h : Inv gs left []) {w : List δ} : IsCov gs left [] w ↔ w = [] := by
  constructor
  · intro c
    cases w with
    | nil => rfl
    | cons d w =>
      have hd := c.sub d List.mem_cons_self
      cases e : gs d with
      | nil => exact absurd e (h.ne d hd)
      | cons g t => exact absurd (h.sub d hd g (by rw [e]; exact List.mem_cons_self)) List.not_mem_nil
  · rintro rfl
    exact ⟨List.nodup_nil, fun _ h => absurd h List.not_mem_nil, fun _ h => absurd h List.not_mem_nil, fun _ h => absurd h List.not_mem_nil⟩
/-- the search, with any choice of what to try -/
def allC (rows : List δ → List γ → List δ) (gs : δ → List γ) : Nat → List δ → List γ → List (List δ)
  | _, _, [] => [[]]
  | 0, _, _ :: _ => []
  | n + 1, left, g :: t => (rows left (g :: t)).flatMap fun d => (allC rows gs n (going gs left d) (still gs (g :: t) d)).map (d :: ·)
/-- what is tried: all that have some goal -/
def Pick (gs : δ → List γ) (U : List δ) (V : List γ) (rows : List δ → List γ → List δ) : Prop := ∀ left goals, goals ≠ [] → left.Nodup → (∀ d ∈ left, d ∈ U) → (∀ g ∈ goals, g ∈ V) → Inv gs left goals → (rows left goals).Nodup ∧ ∃ g ∈ goals, ∀ d, d ∈ rows left goals ↔ d ∈ left ∧ g ∈ gs d
theorem still_lt (h : Inv gs left goals) {d : δ} (hd : d ∈ left) : (still gs goals d).length < goals.length := by
  cases e : gs d with
  | nil => exact absurd e (h.ne d hd)
  | cons g t =>
    have hg : g ∈ gs d := by rw [e]; exact List.mem_cons_self
    have : (goals.filter fun y => !decide (y ∈ gs d)).length < goals.length := by
      refine Nat.lt_of_le_of_ne (List.length_filter_le _ _) fun c => ?_
      have := List.length_filter_eq_length_iff.mp c g (h.sub d hd g hg)
      simp [hg] at this
    exact this
theorem nodup_going (h : left.Nodup) (d : δ) : (going gs left d).Nodup := h.filter _
theorem flatMap_pairwise {α β : Type} {R : β → β → Prop} {f : α → List β} : ∀ {xs : List α}, (∀ x ∈ xs, (f x).Pairwise R) → xs.Pairwise (fun x y => ∀ a ∈ f x, ∀ b ∈ f y, R a b) → (xs.flatMap f).Pairwise R
  | [], _, _ => List.Pairwise.nil
  | x :: xs, h1, h2 => by
    rw [List.flatMap_cons, List.pairwise_append]
    rw [List.pairwise_cons] at h2
    refine ⟨h1 x List.mem_cons_self, flatMap_pairwise (fun y hy => h1 y (List.mem_cons_of_mem _ hy)) h2.2, fun a ha b hb => ?_⟩
    obtain ⟨y, hy, hb⟩ := List.mem_flatMap.mp hb
    exact h2.1 y hy a ha b hb
/-- the search finds all covers, each once -/
theorem allC_ok {U : List δ} {V : List γ} {rows : List δ → List γ → List δ} (P : Pick gs U V rows) : ∀ (n : Nat) (left : List δ) (goals : List γ), goals.length ≤ n → left.Nodup → (∀ d ∈ left, d ∈ U) → (∀ g ∈ goals, g ∈ V) → Inv gs left goals →
    (∀ w ∈ allC rows gs n left goals, IsCov gs left goals w) ∧ (∀ w, IsCov gs left goals w → ∃ v ∈ allC rows gs n left goals, v.Perm w) ∧ (allC rows gs n left goals).Pairwise fun a b => ¬ a.Perm b
  | n, left, [], _, _, _, _, h => by
    have e : allC rows gs n left [] = [[]] := by cases n <;> rfl
    rw [e]
    refine ⟨fun w hw => ?_, fun w hw => ⟨[], List.mem_cons_self, ?_⟩, List.pairwise_singleton _ _⟩
    · rw [List.mem_singleton] at hw
      exact (IsCov.nil h).mpr hw
    · rw [(IsCov.nil h).mp hw]
  | 0, _, _ :: _, hn, _, _, _, _ => absurd hn (by simp)
  | n + 1, left, g :: t, hn, hl, hu, hv, h => by
    obtain ⟨p1, g', hg', p2⟩ := P left (g :: t) (by simp) hl hu hv h
    have ih := fun d (hd : d ∈ left) => allC_ok P n (going gs left d) (still gs (g :: t) d) (by have := still_lt h hd; omega) (nodup_going hl d) (fun x hx => hu x (mem_going.mp hx).1) (fun x hx => hv x (mem_still.mp hx).1) (h.step d)
    unfold allC
    refine ⟨fun w hw => ?_, fun w hw => ?_, ?_⟩
    · obtain ⟨d, hd, hw⟩ := List.mem_flatMap.mp hw
      obtain ⟨v, hv, rfl⟩ := List.mem_map.mp hw
      have hd := ((p2 d).mp hd).1
      exact ((ih d hd).1 v hv).cons h hd
    · obtain ⟨d, hd, q⟩ := hw.all g' hg'
      have hl' := hw.sub d hd
      obtain ⟨v, hv, p⟩ := (ih d hl').2.1 _ (hw.erase hd)
      exact ⟨d :: v, List.mem_flatMap.mpr ⟨d, (p2 d).mpr ⟨hl', q⟩, List.mem_map.mpr ⟨v, hv, rfl⟩⟩, (p.cons d).trans (List.perm_cons_erase hd).symm⟩
    · refine flatMap_pairwise (fun d hd => ?_) ?_
      · rw [List.pairwise_map]
        exact ((ih d ((p2 d).mp hd).1).2.2).imp fun q c => q ((List.perm_cons d).mp c)
      · refine List.Pairwise.imp_of_mem ?_ p1
        intro d e hd he ne a ha b hb c
        obtain ⟨v, hv, rfl⟩ := List.mem_map.mp ha
        obtain ⟨u, hu, rfl⟩ := List.mem_map.mp hb
        have hu' := (((ih e ((p2 e).mp he).1).1 u hu).cons h ((p2 e).mp he).1)
        have : d ∈ e :: u := c.mem_iff.mp List.mem_cons_self
        exact hu'.dis d this e List.mem_cons_self ne g' ((p2 d).mp hd).2 ((p2 e).mp he).2
/-- the search, whether there is any -/
def anyC (rows : List δ → List γ → List δ) (gs : δ → List γ) : Nat → List δ → List γ → Bool
  | _, _, [] => true
  | 0, _, _ :: _ => false
  | n + 1, left, g :: t => (rows left (g :: t)).any fun d => anyC rows gs n (going gs left d) (still gs (g :: t) d)
theorem anyC_eq (rows : List δ → List γ → List δ) : ∀ (n : Nat) (left : List δ) (goals : List γ), anyC rows gs n left goals = !(allC rows gs n left goals).isEmpty
  | n, left, [] => by cases n <;> rfl
  | 0, _, _ :: _ => rfl
  | n + 1, left, g :: t => by
    unfold anyC allC
    induction rows left (g :: t) with
    | nil => rfl
    | cons d ds ih =>
      rw [List.any_cons, ih, List.flatMap_cons, anyC_eq rows n]
      cases allC rows gs n (going gs left d) (still gs (g :: t) d) <;> simp
theorem anyC_ok {U : List δ} {V : List γ} {rows : List δ → List γ → List δ} (P : Pick gs U V rows) (n : Nat) (hn : goals.length ≤ n) (hl : left.Nodup) (hu : ∀ d ∈ left, d ∈ U) (hv : ∀ g ∈ goals, g ∈ V) (h : Inv gs left goals) : anyC rows gs n left goals = true ↔ ∃ w, IsCov gs left goals w := by
  obtain ⟨a1, a2, _⟩ := allC_ok P n left goals hn hl hu hv h
  rw [anyC_eq, Bool.not_eq_true', List.isEmpty_eq_false_iff_exists_mem]
  exact ⟨fun ⟨w, hw⟩ => ⟨w, a1 w hw⟩, fun ⟨w, hw⟩ => (a2 w hw).imp fun v q => q.1⟩
/-- a row out of what is left: no cover with it gone just if all have it -/
theorem without {d : δ} : (∃ w, IsCov gs (left.filter fun x => !decide (x = d)) goals w) ↔ ∃ w, IsCov gs left goals w ∧ d ∉ w := by
  constructor
  · rintro ⟨w, h⟩
    exact ⟨w, ⟨h.nod, fun x hx => (List.mem_filter.mp (h.sub x hx)).1, h.all, h.dis⟩, fun c => by simpa using (List.mem_filter.mp (h.sub d c)).2⟩
  · rintro ⟨w, h, c⟩
    exact ⟨w, h.nod, fun x hx => List.mem_filter.mpr ⟨h.sub x hx, by simpa using fun e : x = d => c (e ▸ hx)⟩, h.all, h.dis⟩
theorem withit (h : Inv gs left goals) {d : δ} (hd : d ∈ left) : (∃ w, IsCov gs (going gs left d) (still gs goals d) w) ↔ ∃ w, IsCov gs left goals w ∧ d ∈ w :=
  ⟨fun ⟨w, q⟩ => ⟨d :: w, q.cons h hd, List.mem_cons_self⟩, fun ⟨w, q, c⟩ => ⟨w.erase d, q.erase c⟩⟩
theorem allC_len (rows : List δ → List γ → List δ) : ∀ (n : Nat) (left : List δ) (goals : List γ), ∀ w ∈ allC rows gs n left goals, w.length ≤ n
  | n, left, [], w, h => by
    have e : allC rows gs n left [] = [[]] := by cases n <;> rfl
    rw [e, List.mem_singleton] at h
    subst h
    exact Nat.zero_le _
  | 0, _, _ :: _, w, h => absurd h (by simp [allC])
  | n + 1, left, g :: t, w, h => by
    unfold allC at h
    obtain ⟨d, hd, hw⟩ := List.mem_flatMap.mp h
    obtain ⟨v, hv, rfl⟩ := List.mem_map.mp hw
    have := allC_len rows n _ _ v hv
    simp
    omega
theorem nodup_len {α : Type} [DecidableEq α] : ∀ {xs ys : List α}, xs.Nodup → (∀ x ∈ xs, x ∈ ys) → xs.length ≤ ys.length
  | [], _, _, _ => Nat.zero_le _
  | x :: xs, ys, h, s => by
    rw [List.nodup_cons] at h
    have hx := s x List.mem_cons_self
    have := nodup_len (xs := xs) (ys := ys.erase x) h.2 fun y hy => (List.mem_erase_of_ne (fun e => by subst e; exact h.1 hy)).mpr (s y (List.mem_cons_of_mem _ hy))
    rw [List.length_erase_of_mem hx] at this
    have hp : 0 < ys.length := List.length_pos_of_mem hx
    simp
    omega
end Pd.Cov

end
section
set_option linter.all false
set_option autoImplicit false
set_option Elab.async false
/-! Pd.Unit: what is seen one by one does not hang on the order. Plain Lean. -/
namespace Pd.Cov
variable {δ γ : Type} [DecidableEq δ] [DecidableEq γ] (gs : δ → List γ)
def Dead (left : List δ) (goals : List γ) : Prop := ∃ g ∈ goals, ∀ x ∈ left, g ∉ gs x
def Unit (left : List δ) (goals : List γ) (d : δ) : Prop := d ∈ left ∧ ∃ g ∈ goals, g ∈ gs d ∧ ∀ x ∈ left, g ∈ gs x → x = d
inductive Run : List δ → List γ → Option (List δ) → Prop
  | dead {left : List δ} {goals : List γ} : Dead gs left goals → Run left goals none
  | stop {left : List δ} {goals : List γ} : ¬ Dead gs left goals → (∀ d, ¬ Unit gs left goals d) → Run left goals (some [])
  | step {left : List δ} {goals : List γ} {d : δ} {r : Option (List δ)} : ¬ Dead gs left goals → Unit gs left goals d → Run (going gs left d) (still gs goals d) r → Run left goals (r.map (d :: ·))
variable {gs}
def Same : Option (List δ) → Option (List δ) → Prop
  | none, none => True
  | some a, some b => a.Perm b
  | _, _ => False
theorem Same.rfl : ∀ {r : Option (List δ)}, Same r r
  | none => trivial
  | some a => List.Perm.refl a
theorem Same.symm : ∀ {r s : Option (List δ)}, Same r s → Same s r
  | none, none, _ => trivial
  | some _, some _, h => List.Perm.symm h
theorem Same.trans : ∀ {r s t : Option (List δ)}, Same r s → Same s t → Same r t
  | none, none, none, _, _ => trivial
  | some _, some _, some _, h, i => List.Perm.trans h i
theorem Same.map (d : δ) : ∀ {r s : Option (List δ)}, Same r s → Same (r.map (d :: ·)) (s.map (d :: ·))
  | none, none, _ => trivial
  | some _, some _, h => List.Perm.cons d h
theorem Same.none_left {r : Option (List δ)} (h : Same none r) : r = none := by cases r <;> first | rfl | exact h.elim
theorem going_comm (left : List δ) (d e : δ) : going gs (going gs left d) e = going gs (going gs left e) d := by
  unfold going
  rw [List.filter_filter, List.filter_filter]
  exact List.filter_congr fun x _ => Bool.and_comm _ _
theorem still_comm (goals : List γ) (d e : δ) : still gs (still gs goals d) e = still gs (still gs goals e) d := by
  unfold still
  rw [List.filter_filter, List.filter_filter]
  exact List.filter_congr fun x _ => Bool.and_comm _ _
open Classical in
theorem run_ex : ∀ (n : Nat) (left : List δ) (goals : List γ), goals.length ≤ n → Inv gs left goals → ∃ r, Run gs left goals r := by
  intro n
  induction n with
  | zero =>
    intro left goals hn h
    have : goals = [] := List.length_eq_zero_iff.mp (Nat.le_zero.mp hn)
    subst this
    exact ⟨some [], .stop (fun ⟨g, hg, _⟩ => absurd hg (by simp)) fun d ⟨_, g, hg, _⟩ => absurd hg (by simp)⟩
  | succ n ih =>
    intro left goals hn h
    by_cases c : Dead gs left goals
    · exact ⟨none, .dead c⟩
    · by_cases e : ∃ d, Unit gs left goals d
      · obtain ⟨d, u⟩ := e
        obtain ⟨r, hr⟩ := ih (going gs left d) (still gs goals d) (by have := still_lt h u.1; omega) (h.step d)
        exact ⟨_, .step c u hr⟩
      · exact ⟨some [], .stop c fun d u => e ⟨d, u⟩⟩
/-- another one that is sure, behind a first one -/
theorem unit_step {left : List δ} {goals : List γ} {d e : δ} (ud : Unit gs left goals d) (ue : Unit gs left goals e) (ne : d ≠ e) (ap : ∀ g ∈ gs e, g ∉ gs d) : Unit gs (going gs left d) (still gs goals d) e := by
  obtain ⟨h1, g, h2, h3, h4⟩ := ue
  exact ⟨mem_going.mpr ⟨h1, ap⟩, g, mem_still.mpr ⟨h2, ap g h3⟩, h3, fun x hx q => h4 x (mem_going.mp hx).1 q⟩
/-- two that are sure and do not go together: nothing goes -/
theorem clash {left : List δ} {goals : List γ} {d e : δ} (ud : Unit gs left goals d) (ue : Unit gs left goals e) (ne : d ≠ e) (c : ∃ g ∈ gs e, g ∈ gs d) : Dead gs (going gs left d) (still gs goals d) := by
  obtain ⟨h1, g, h2, h3, h4⟩ := ue
  obtain ⟨k, k1, k2⟩ := c
  refine ⟨g, mem_still.mpr ⟨h2, fun q => ne (h4 d ud.1 q)⟩, fun x hx q => ?_⟩
  have := h4 x (mem_going.mp hx).1 q
  subst this
  exact (mem_going.mp hx).2 k k1 k2
/-- no way behind a first one: none behind both -/
theorem dead_over {left : List δ} {goals : List γ} {d e : δ} (he : e ∈ left) (ap : ∀ g ∈ gs e, g ∉ gs d) (h : Dead gs (going gs left d) (still gs goals d)) : Dead gs (going gs (going gs left e) d) (still gs (still gs goals e) d) := by
  obtain ⟨g, h1, h2⟩ := h
  have hg := mem_still.mp h1
  refine ⟨g, ?_, fun x hx => ?_⟩
  · rw [mem_still, mem_still]
    exact ⟨⟨hg.1, fun q => h2 e (mem_going.mpr ⟨he, ap⟩) q⟩, hg.2⟩
  · have hx := mem_going.mp hx
    exact h2 x (mem_going.mpr ⟨(mem_going.mp hx.1).1, hx.2⟩)
theorem run_dead {left : List δ} {goals : List γ} {r : Option (List δ)} (h : Run gs left goals r) (c : Dead gs left goals) : r = none := by
  cases h with
  | dead => rfl
  | stop h => exact absurd c h
  | step h => exact absurd c h
theorem run_one : ∀ (n : Nat) (left : List δ) (goals : List γ), goals.length ≤ n → Inv gs left goals → ∀ r s, Run gs left goals r → Run gs left goals s → Same r s := by
  intro n
  induction n with
  | zero =>
    intro left goals hn h r s hr hs
    have : goals = [] := List.length_eq_zero_iff.mp (Nat.le_zero.mp hn)
    subst this
    have z : ∀ r, Run gs left [] r → r = some [] := by
      intro r hr
      cases hr with
      | dead h => obtain ⟨g, hg, _⟩ := h; exact absurd hg (by simp)
      | stop => rfl
      | step _ u _ => obtain ⟨_, g, hg, _⟩ := u; exact absurd hg (by simp)
    rw [z r hr, z s hs]
    exact Same.rfl
  | succ n ih =>
    intro left goals hn h r s hr hs
    cases hr with
    | dead c =>
      rw [run_dead hs c]
      exact Same.rfl
    | stop c u =>
      cases hs with
      | dead c' => exact absurd c' c
      | stop => exact Same.rfl
      | step _ u' _ => exact absurd u' (u _)
    | @step _ _ d r1 c ud h1 =>
      cases hs with
      | dead c' => exact absurd c' c
      | stop _ u => exact absurd ud (u _)
      | @step _ _ e r2 _ ue h2 =>
        have ld := still_lt h ud.1
        have le := still_lt h ue.1
        by_cases ne : d = e
        · subst ne
          exact (ih _ _ (by omega) (h.step d) _ _ h1 h2).map d
        · by_cases ap : ∃ g ∈ gs e, g ∈ gs d
          · have d1 := clash ud ue ne ap
            have d2 := clash ue ud (fun q => ne q.symm) (by obtain ⟨g, a, b⟩ := ap; exact ⟨g, b, a⟩)
            rw [run_dead h1 d1, run_dead h2 d2]
            exact Same.rfl
          · have ap1 : ∀ g ∈ gs e, g ∉ gs d := fun g a b => ap ⟨g, a, b⟩
            have ap2 : ∀ g ∈ gs d, g ∉ gs e := fun g a b => ap ⟨g, b, a⟩
            have ue' := unit_step ud ue ne ap1
            have ud' := unit_step ue ud (fun q => ne q.symm) ap2
            by_cases c1 : Dead gs (going gs left d) (still gs goals d)
            · rw [run_dead h1 c1]
              by_cases c2 : Dead gs (going gs left e) (still gs goals e)
              · rw [run_dead h2 c2]
                exact Same.rfl
              · have := dead_over ue.1 ap1 c1
                have q := ih _ _ (by omega) (h.step e) _ _ (Run.step c2 ud' (.dead this)) h2
                rw [Same.none_left q]
                exact Same.rfl
            · by_cases c2 : Dead gs (going gs left e) (still gs goals e)
              · rw [run_dead h2 c2]
                have := dead_over ud.1 ap2 c2
                have q := ih _ _ (by omega) (h.step d) _ _ (Run.step c1 ue' (.dead this)) h1
                rw [Same.none_left q]
                exact Same.rfl
              · obtain ⟨r, hr⟩ := run_ex n (going gs (going gs left d) e) (still gs (still gs goals d) e) (by have := still_lt (h.step d) ue'.1; omega) ((h.step d).step e)
                have q1 := ih _ _ (by omega) (h.step d) _ _ (Run.step c1 ue' hr) h1
                have hr' := hr
                rw [going_comm, still_comm] at hr'
                have q2 := ih _ _ (by omega) (h.step e) _ _ (Run.step c2 ud' hr') h2
                have q1 := q1.symm.map d
                have q2 := q2.map e
                refine q1.trans (Same.trans ?_ q2)
                cases r with
                | none => exact Same.rfl
                | some a => exact List.Perm.swap e d a
theorem run_goals {left : List δ} {goals : List γ} {r : Option (List δ)} (h : Run gs left goals r) : ∀ (goals' : List γ), (∀ g, g ∈ goals ↔ g ∈ goals') → Run gs left goals' r := by
  induction h with
  | dead c =>
    intro goals' e
    obtain ⟨g, h1, h2⟩ := c
    exact .dead ⟨g, (e g).mp h1, h2⟩
  | stop c u =>
    intro goals' e
    refine .stop (fun ⟨g, h1, h2⟩ => c ⟨g, (e g).mpr h1, h2⟩) fun d ⟨h1, g, h2, h3⟩ => u d ⟨h1, g, (e g).mpr h2, h3⟩
  | step c u _ ih =>
    intro goals' e
    obtain ⟨h1, g, h2, h3⟩ := u
    refine .step (fun ⟨g, h1, h2⟩ => c ⟨g, (e g).mpr h1, h2⟩) ⟨h1, g, (e g).mp h2, h3⟩ (ih _ fun g => ?_)
    rw [mem_still, mem_still, e g]
theorem unit_in {left : List δ} {goals : List γ} {d : δ} (u : Unit gs left goals d) {w : List δ} (c : IsCov gs left goals w) : d ∈ w := by
  obtain ⟨h1, g, h2, h3, h4⟩ := u
  obtain ⟨x, hx, q⟩ := c.all g h2
  exact h4 x (c.sub x hx) q ▸ hx
/-- none: there is no cover -/
theorem run_none {left : List δ} {goals : List γ} {r : Option (List δ)} (h : Run gs left goals r) : r = none → ∀ w, ¬ IsCov gs left goals w := by
  induction h with
  | dead c =>
    intro _ w q
    obtain ⟨g, h1, h2⟩ := c
    obtain ⟨x, hx, e⟩ := q.all g h1
    exact h2 x (q.sub x hx) e
  | stop => intro e; exact absurd e (by simp)
  | @step _ _ d r c u hr ih =>
    intro e w q
    have : r = none := by cases r <;> first | rfl | exact absurd e (by simp)
    exact ih this _ (q.erase (unit_in u q))
/-- what is seen is in all covers -/
theorem run_some {left : List δ} {goals : List γ} {r : Option (List δ)} (h : Run gs left goals r) : ∀ a, r = some a → ∀ w, IsCov gs left goals w → ∀ d ∈ a, d ∈ w := by
  induction h with
  | dead c => intro a e; exact absurd e (by simp)
  | stop => intro a e w _ d hd; cases e; exact absurd hd (by simp)
  | @step _ _ d r c u hr ih =>
    intro a e w q x hx
    cases r with
    | none => exact absurd e (by simp)
    | some t =>
      cases e
      have hd := unit_in u q
      rcases List.mem_cons.mp hx with rfl | hx
      · exact hd
      · exact List.mem_of_mem_erase (ih t rfl _ (q.erase hd) x hx)
theorem still_three {goals : List γ} {d : δ} (hn : goals.Nodup) (hd : (gs d).Nodup) (hs : ∀ g ∈ gs d, g ∈ goals) : (still gs goals d).length + (gs d).length = goals.length := by
  have p : (still gs goals d ++ gs d).Perm goals := by
    rw [List.perm_ext_iff_of_nodup]
    · intro g
      rw [List.mem_append, mem_still]
      by_cases c : g ∈ gs d
      · simp [c, hs g c]
      · simp [c]
    · rw [List.nodup_append]
      exact ⟨hn.filter _, hd, fun a ha b hb e => (mem_still.mp ha).2 (e ▸ hb)⟩
    · exact hn
  have := p.length_eq
  rw [List.length_append] at this
  exact this
/-- seen whole: it is a cover -/
theorem run_whole {left : List δ} {goals : List γ} {r : Option (List δ)} (h : Run gs left goals r) : goals.Nodup → Inv gs left goals → (∀ d ∈ left, (gs d).Nodup ∧ (gs d).length = 3) → ∀ a, r = some a → 3 * a.length ≤ goals.length ∧ (3 * a.length = goals.length → IsCov gs left goals a) := by
  induction h with
  | dead c => intro _ _ _ a e; exact absurd e (by simp)
  | @stop left goals c u =>
    intro hn hi ht a e
    cases e
    refine ⟨by simp, fun q => ?_⟩
    have : goals = [] := List.length_eq_zero_iff.mp (by simpa using q.symm)
    subst this
    exact (IsCov.nil hi).mpr rfl
  | @step left goals d r c u hr ih =>
    intro hn hi ht a e
    cases r with
    | none => exact absurd e (by simp)
    | some t =>
      cases e
      obtain ⟨t1, t2⟩ := ht d u.1
      have l3 := still_three hn t1 (hi.sub d u.1)
      obtain ⟨i1, i2⟩ := ih (hn.filter _) (hi.step d) (fun x hx => ht x (mem_going.mp hx).1) t rfl
      rw [t2] at l3
      refine ⟨by simp; omega, fun q => ?_⟩
      exact (i2 (by simp at q; omega)).cons hi u.1
end Pd.Cov

end
section
set_option linter.all false
set_option autoImplicit false
set_option Elab.async false
set_option maxRecDepth 100000
/-! Pd.Enc: typed data as values. Plain Lean. -/
namespace Pd
class Enc (α : Type) [DecidableEq α] where
  enc : α → D
  dp : Nat
  eqE : ∀ x y, eqD (enc x) (enc y) = decide (x = y)
  plE : ∀ n, dp ≤ n → ∀ x, plain n (enc x) = true
  tkE : ∀ n, dp ≤ n → ∀ x, tupK n (enc x) = true
  alE : ∀ x y, alk (enc x) (enc y) = true
open Enc (enc)
section inst
instance : Enc Nat where
  enc k := .int k
  dp := 0
  eqE x y := by
    simp only [eqD]
    by_cases h : x = y
    · simp [h]
    · have : ¬ (x : Int) = y := fun e => h (Int.ofNat.inj e)
      simp [h, this]
  plE n _ x := by cases n <;> rfl
  tkE n _ x := by cases n <;> rfl
  alE x y := rfl
instance : Enc Int where
  enc k := .int k
  dp := 0
  eqE x y := by simp only [eqD]; by_cases h : x = y <;> simp [h]
  plE n _ x := by cases n <;> rfl
  tkE n _ x := by cases n <;> rfl
  alE x y := rfl
variable {α β : Type} [DecidableEq α] [DecidableEq β] [Enc α] [Enc β]
instance : Enc (α × β) where
  enc x := .tup [enc x.1, enc x.2]
  dp := max (Enc.dp α) (Enc.dp β) + 1
  eqE x y := by
    obtain ⟨a, b⟩ := x
    obtain ⟨c, d⟩ := y
    simp only [eqD, eqDs, Enc.eqE, Bool.and_true, Prod.mk.injEq, Bool.decide_and]
  plE n h x := by
    cases n with
    | zero => omega
    | succ n =>
      show plains n [enc x.1, enc x.2] = true
      simp only [plains, Bool.and_true, Bool.and_eq_true]
      exact ⟨Enc.plE n (by omega) _, Enc.plE n (by omega) _⟩
  tkE n h x := by
    cases n with
    | zero => omega
    | succ n =>
      show tupKs n [enc x.1, enc x.2] = true
      simp only [tupKs, Bool.and_true, Bool.and_eq_true]
      exact ⟨Enc.tkE n (by omega) _, Enc.tkE n (by omega) _⟩
  alE x y := by
    show alks [enc x.1, enc x.2] [enc y.1, enc y.2] = true
    simp [alks, Enc.alE]
theorem eqDs_map : ∀ (xs ys : List α), eqDs (xs.map enc) (ys.map enc) = decide (xs = ys)
  | [], [] => by simp [eqDs]
  | [], y :: ys => by simp [eqDs]
  | x :: xs, [] => by simp [eqDs]
  | x :: xs, y :: ys => by simp [eqDs, eqDs_map xs ys, Enc.eqE]
theorem plains_map (n : Nat) (h : Enc.dp α ≤ n) : ∀ xs : List α, plains n (xs.map enc) = true
  | [] => rfl
  | x :: xs => by simp [plains, plains_map n h xs, Enc.plE n h]
theorem tupKs_map (n : Nat) (h : Enc.dp α ≤ n) : ∀ xs : List α, tupKs n (xs.map enc) = true
  | [] => rfl
  | x :: xs => by simp [tupKs, tupKs_map n h xs, Enc.tkE n h]
theorem alks_map : ∀ (xs ys : List α), alks (xs.map enc) (ys.map enc) = true
  | [], _ => by simp [alks]
  | x :: xs, [] => by simp [alks]
  | x :: xs, y :: ys => by simp [alks, alks_map xs ys, Enc.alE]
/-- lists stand for tuples -/
instance : Enc (List α) where
  enc x := .tup (x.map enc)
  dp := Enc.dp α + 1
  eqE x y := by simp only [eqD]; exact eqDs_map x y
  plE n h x := by
    cases n with
    | zero => omega
    | succ n => exact plains_map n (by omega) x
  tkE n h x := by
    cases n with
    | zero => omega
    | succ n => exact tupKs_map n (by omega) x
  alE x y := alks_map x y
end inst
section
variable {α β : Type} [DecidableEq α] [Enc α] [DecidableEq β] [Enc β]
@[simp] def u_eqE := @Enc.eqE
theorem enc_nat (k : Nat) : enc k = D.int k := rfl
theorem enc_prod (x : α × β) : enc x = D.tup [enc x.1, enc x.2] := rfl
theorem enc_list (xs : List α) : enc xs = D.tup (xs.map enc) := rfl
theorem plE20 (h : Enc.dp α ≤ 60) (x : α) : plain 60 (enc x) = true := Enc.plE 60 h x
theorem eq_lst (xs ys : List α) : eqD (.lst (xs.map enc)) (.lst (ys.map enc)) = decide (xs = ys) := by
  simp only [eqD]; exact eqDs_map xs ys
theorem eq_tup (xs ys : List α) : eqD (.tup (xs.map enc)) (.tup (ys.map enc)) = decide (xs = ys) := by
  simp only [eqD]; exact eqDs_map xs ys
theorem inList_map (x : α) : ∀ ys : List α, inList (enc x) (ys.map enc) = decide (x ∈ ys)
  | [] => rfl
  | y :: ys => by
    have ih := inList_map x ys
    unfold inList at ih ⊢
    rw [List.map_cons, List.any_cons, ih, Enc.eqE]
    by_cases h : x = y
    · simp [h]
    · have : ¬ y = x := fun e => h e.symm
      simp [h, this]
theorem leafK_nat (k : Nat) : leafK (enc k) = true := rfl
theorem isKT_prod (h : Enc.dp α ≤ 7) (i : Enc.dp β ≤ 7) (x : α × β) : isKT (enc x) = true := by
  show tupKs 7 [enc x.1, enc x.2] = true
  simp [tupKs, Enc.tkE 7 h, Enc.tkE 7 i]
theorem isKT_list (h : Enc.dp α ≤ 7) (x : List α) : isKT (enc x) = true := tupKs_map 7 h x
theorem keyOk_of (h : ∀ x : α, isKT (enc x) = true) (ks : List α) (k : α) : keyOk (ks.map enc) (enc k) = true := by
  unfold keyOk
  rw [h k, Bool.true_and, Bool.or_eq_true]
  refine .inr (List.all_eq_true.mpr ?_)
  intro y hy
  obtain ⟨x, _, rfl⟩ := List.mem_map.mp hy
  exact h x
theorem keyOk_leaf (h : ∀ x : α, leafK (enc x) = true) (ks : List α) (k : α) : keyOk (ks.map enc) (enc k) = true := by
  unfold keyOk
  rw [h k, Bool.true_and, Bool.or_eq_true]
  refine .inl (List.all_eq_true.mpr ?_)
  intro y hy
  obtain ⟨x, _, rfl⟩ := List.mem_map.mp hy
  exact h x
theorem getK_enc {γ : Type} (f : α → γ) (x : α) : ∀ ks : List α, getK (enc x) (ks.map enc) (ks.map f) = if x ∈ ks then some (f x) else none
  | [] => rfl
  | k :: ks => by
    rw [List.map_cons, List.map_cons]
    unfold getK
    rw [Enc.eqE, getK_enc f x ks]
    by_cases h : k = x
    · subst h; simp
    · have : ¬ x = k := fun e => h e.symm
      simp [h, this]
theorem hasK_map (x : α) : ∀ ks : List α, hasK (enc x) (ks.map enc) = decide (x ∈ ks)
  | [] => rfl
  | k :: ks => by
    rw [List.map_cons]
    unfold hasK
    rw [Enc.eqE, hasK_map x ks]
    by_cases h : k = x
    · subst h; simp
    · have : ¬ x = k := fun e => h e.symm
      simp [h, this]
def upd {γ : Type} (f : α → γ) (x : α) (v : γ) : α → γ := fun y => if y = x then v else f y
@[simp] theorem upd_self {γ : Type} (f : α → γ) (x : α) (v : γ) : upd f x v x = v := by simp [upd]
theorem upd_ne {γ : Type} (f : α → γ) {x y : α} (v : γ) (h : y ≠ x) : upd f x v y = f y := by simp [upd, h]
theorem map_upd {γ : Type} (f : α → γ) (x : α) (v : γ) {ks : List α} (h : x ∉ ks) : ks.map (upd f x v) = ks.map f :=
  List.map_congr_left fun y hy => upd_ne f v fun e => h (e ▸ hy)
def addK (ks : List α) (x : α) : List α := if x ∈ ks then ks else ks ++ [x]
theorem putKs_map (x : α) (ks : List α) : putKs (enc x) (ks.map enc) = (addK ks x).map enc := by
  unfold putKs addK
  rw [hasK_map]
  by_cases h : x ∈ ks <;> simp [h]
theorem setK_map {γ : Type} (f : α → γ) (x : α) (v : γ) : ∀ {ks : List α}, ks.Nodup → setK (enc x) v (ks.map enc) (ks.map f) = if x ∈ ks then ks.map (upd f x v) else ks.map f
  | [], _ => rfl
  | k :: ks, h => by
    rw [List.nodup_cons] at h
    rw [List.map_cons, List.map_cons]
    unfold setK
    rw [Enc.eqE, setK_map f x v h.2]
    by_cases e : k = x
    · subst e
      simp [upd_self, map_upd f k v h.1]
    · have : ¬ x = k := fun q => e q.symm
      by_cases hx : x ∈ ks <;> simp [e, this, hx, upd]
theorem putVs_map {γ : Type} (f : α → γ) (x : α) (v : γ) {ks : List α} (h : ks.Nodup) : putVs (enc x) v (ks.map enc) (ks.map f) = (addK ks x).map (upd f x v) := by
  unfold putVs addK
  rw [hasK_map, setK_map f x v h]
  by_cases e : x ∈ ks
  · simp [e]
  · simp [e, map_upd f x v e]
theorem nodup_addK {ks : List α} (h : ks.Nodup) (x : α) : (addK ks x).Nodup := by
  unfold addK
  split
  · exact h
  · rename_i e
    rw [List.nodup_append]
    exact ⟨h, by simp, fun a ha b hb => by rintro rfl; simp at hb; exact e (hb ▸ ha)⟩
theorem mem_addK {ks : List α} {x y : α} : y ∈ addK ks x ↔ y ∈ ks ∨ y = x := by
  unfold addK
  split
  · rename_i e
    exact ⟨.inl, fun h => h.elim id fun q => q ▸ e⟩
  · simp
theorem putKs_new {x : α} {ks : List α} (h : x ∉ ks) : putKs (enc x) (ks.map enc) = (ks ++ [x]).map enc := by
  rw [putKs_map, addK, if_neg h]
theorem putVs_new {γ : Type} (f : α → γ) {x : α} {ks : List α} (h : x ∉ ks) : putVs (enc x) (f x) (ks.map enc) (ks.map f) = (ks ++ [x]).map f := by
  unfold putVs
  rw [hasK_map]
  simp [h]
theorem nodup_pre {pre post full : List α} {x : α} (hn : full.Nodup) (h : full = pre ++ x :: post) : x ∉ pre ∧ pre.Nodup := by
  rw [h, List.nodup_append] at hn
  exact ⟨fun q => hn.2.2 x q x List.mem_cons_self rfl, hn.1⟩
/-! sorting -/
def insE (x : α) : List α → List α
  | [] => [x]
  | y :: ys => if leD (enc x) (enc y) then x :: y :: ys else y :: insE x ys
def sortE : List α → List α
  | [] => []
  | x :: xs => insE x (sortE xs)
theorem insD_map (x : α) : ∀ ys : List α, insD (enc x) (ys.map enc) = (insE x ys).map enc
  | [] => rfl
  | y :: ys => by
    rw [List.map_cons]
    unfold insD insE
    rw [insD_map x ys]
    split <;> rfl
theorem sortD_map : ∀ xs : List α, sortD (xs.map enc) = (sortE xs).map enc
  | [] => rfl
  | x :: xs => by
    rw [List.map_cons]
    unfold sortD sortE
    rw [sortD_map xs, insD_map]
theorem enc_inj {x y : α} (h : (enc x : D) = enc y) : x = y := by
  have a := Enc.eqE x y
  have b := Enc.eqE y y
  rw [h, b] at a
  simpa using a.symm
theorem map_enc_inj {xs ys : List α} (h : xs.map (enc : α → D) = ys.map enc) : xs = ys := by
  have a := eqDs_map xs ys
  have b := eqDs_map ys ys
  rw [h, b] at a
  simpa using a.symm
theorem insE_perm (x : α) : ∀ ys : List α, (insE x ys).Perm (x :: ys)
  | [] => List.Perm.refl _
  | y :: ys => by
    unfold insE
    split
    · exact List.Perm.refl _
    · exact ((insE_perm x ys).cons y).trans (List.Perm.swap x y ys)
theorem sortE_perm : ∀ xs : List α, (sortE xs).Perm xs
  | [] => List.Perm.refl _
  | x :: xs => (insE_perm x (sortE xs)).trans ((sortE_perm xs).cons x)
def leE (x y : α) : Prop := leD (enc x) (enc y) = true
instance (x y : α) : Decidable (leE x y) := by unfold leE; infer_instance
theorem leE_trans {x y z : α} (h : leE x y) (i : leE y z) : leE x z := leD_trans (Enc.alE _ _) (Enc.alE _ _) (Enc.alE _ _) h i
theorem leE_total (x y : α) : leE x y ∨ leE y x := leD_total (Enc.alE _ _)
theorem leE_antisymm {x y : α} (h : leE x y) (i : leE y x) : x = y := enc_inj (leD_antisymm (Enc.alE _ _) h i)
theorem sortE_le (xs : List α) : (sortE xs).Pairwise leE := by
  have := sortD_le (xs := xs.map (enc : α → D)) fun a ha b hb => by
    obtain ⟨x, _, rfl⟩ := List.mem_map.mp ha
    obtain ⟨y, _, rfl⟩ := List.mem_map.mp hb
    exact Enc.alE x y
  rw [sortD_map, List.pairwise_map] at this
  exact this
theorem sortE_eq {xs ys : List α} (p : xs.Perm ys) (s : ys.Pairwise leE) : sortE xs = ys :=
  ((sortE_perm xs).trans p).eq_of_pairwise (fun a b _ _ e f => leE_antisymm e f) (sortE_le xs) s
theorem sortE_congr {xs ys : List α} (p : xs.Perm ys) : sortE xs = sortE ys := sortE_eq (p.trans (sortE_perm ys).symm) (sortE_le ys)
theorem sortE_iff {xs ys : List α} : sortE xs = sortE ys ↔ xs.Perm ys := ⟨fun h => ((sortE_perm xs).symm.trans (h ▸ List.Perm.refl _)).trans (sortE_perm ys), sortE_congr⟩
@[simp] theorem mem_sortE {xs : List α} {x : α} : x ∈ sortE xs ↔ x ∈ xs := (sortE_perm xs).mem_iff
@[simp] theorem length_sortE (xs : List α) : (sortE xs).length = xs.length := (sortE_perm xs).length_eq
theorem nodup_sortE {xs : List α} (h : xs.Nodup) : (sortE xs).Nodup := (sortE_perm xs).nodup_iff.mpr h
theorem sortOk_not (h : Enc.dp α ≤ 60) (t : ∀ x : α, notTup (enc x) = true) (xs : List α) : sortOk (xs.map enc) = true := by
  rw [sortOk_iff]
  refine ⟨?_, .inr ?_, ?_⟩
  · intro x hx y hy
    obtain ⟨a, _, rfl⟩ := List.mem_map.mp hx
    obtain ⟨b, _, rfl⟩ := List.mem_map.mp hy
    exact Enc.alE a b
  · intro x hx
    obtain ⟨a, _, rfl⟩ := List.mem_map.mp hx
    exact t a
  · intro x hx
    obtain ⟨a, _, rfl⟩ := List.mem_map.mp hx
    exact plE20 h a
theorem sortOk_tup (h : Enc.dp α ≤ 60) {xs : List α} (t : ∀ x ∈ xs, isTup1 (enc x) = true) : sortOk (xs.map enc) = true := by
  rw [sortOk_iff]
  refine ⟨?_, .inl ?_, ?_⟩
  · intro x hx y hy
    obtain ⟨a, _, rfl⟩ := List.mem_map.mp hx
    obtain ⟨b, _, rfl⟩ := List.mem_map.mp hy
    exact Enc.alE a b
  · intro x hx
    obtain ⟨a, ha, rfl⟩ := List.mem_map.mp hx
    exact t a ha
  · intro x hx
    obtain ⟨a, _, rfl⟩ := List.mem_map.mp hx
    exact plE20 h a
theorem sortOk_nat (xs : List Nat) : sortOk (xs.map enc) = true := sortOk_not (by decide) (fun _ => rfl) xs
theorem sortOk_prod (h : Enc.dp (α × β) ≤ 60) (xs : List (α × β)) : sortOk (xs.map enc) = true := sortOk_tup h fun _ _ => rfl
theorem rngD_nat (n : Nat) : rngD 0 n = (List.range n).map enc := by
  unfold rngD
  refine List.map_congr_left fun k _ => ?_
  rw [Int.zero_add]
  rfl
theorem atI_nat {γ : Type} (xs : List γ) (k : Nat) : atI xs (k : Int) = xs[k]? := by
  unfold atI
  rw [if_pos (Int.natCast_nonneg k), Int.toNat_natCast]
theorem boolL_map (p : α → Bool) : ∀ zs : List α, boolL (zs.map fun y => .bl (p y)) = some (zs.map p)
  | [] => rfl
  | z :: zs => by
    have ih := boolL_map p zs
    simp [boolL, ih]
theorem boolL_mapD (p : D → Bool) : ∀ zs : List D, boolL (zs.map fun y => .bl (p y)) = some (zs.map p)
  | [] => rfl
  | z :: zs => by
    have ih := boolL_mapD p zs
    simp [boolL, ih]
end
end Pd

end
section
set_option linter.all false
set_option autoImplicit false
set_option Elab.async false
set_option maxRecDepth 100000
/-! Pd.Sim: the evaluator by simp, comprehensions within. Plain Lean. -/
namespace Pd
open Enc (enc)
/-- a comprehension over typed items -/
def compT {α : Type} (f : α → R (Option D)) : List α → R (List D)
  | [] => .ok []
  | x :: xs => (match f x with
    | .ok none => compT f xs
    | .ok (some d) => (match compT f xs with | .ok ds => .ok (d :: ds) | _ => .bad)
    | _ => .bad)
theorem compL_mapT {α : Type} (f : D → R (Option D)) (g : α → D) : ∀ xs : List α, compL f (xs.map g) = compT (fun x => f (g x)) xs
  | [] => rfl
  | x :: xs => by
    rw [List.map_cons]
    unfold compL compT
    rw [compL_mapT f g xs] <;> (cases f (g x) <;> first | rfl | (rename_i o; cases o <;> (cases compT (fun x => f (g x)) xs <;> rfl)))
theorem compT_m {α : Type} {f : α → R (Option D)} {h : α → D} : ∀ {xs : List α}, (∀ x ∈ xs, f x = .ok (some (h x))) → compT f xs = .ok (xs.map h)
  | [], _ => rfl
  | x :: xs, e => by
    unfold compT
    rw [e x List.mem_cons_self, compT_m fun y hy => e y (List.mem_cons_of_mem _ hy)]
    rfl
theorem compT_f {α : Type} {f : α → R (Option D)} {p : α → Bool} {h : α → D} : ∀ {xs : List α}, (∀ x ∈ xs, f x = .ok (if p x then some (h x) else none)) → compT f xs = .ok ((xs.filter p).map h)
  | [], _ => rfl
  | x :: xs, e => by
    unfold compT
    rw [e x List.mem_cons_self, compT_f fun y hy => e y (List.mem_cons_of_mem _ hy)]
    cases c : p x <;> simp [c]
theorem compL_T (f : D → R (Option D)) (xs : List D) : compL f xs = compT f xs := by
  have := compL_mapT f id xs
  rw [List.map_id] at this
  exact this
@[simp] theorem compT_map {α β : Type} (f : β → R (Option D)) (g : α → β) : ∀ xs : List α, compT f (xs.map g) = compT (fun x => f (g x)) xs
  | [] => rfl
  | x :: xs => by
    rw [List.map_cons]
    unfold compT
    rw [compT_map f g xs]
theorem compT_congr {α : Type} {f g : α → R (Option D)} {xs ys : List α} (h : xs = ys) (e : ∀ x ∈ ys, f x = g x) : compT f xs = compT g ys := by
  subst h
  induction xs with
  | nil => rfl
  | cons x xs ih =>
    unfold compT
    rw [e x List.mem_cons_self, ih fun y hy => e y (List.mem_cons_of_mem _ hy)]
@[simp] theorem compT_some {α : Type} (h : α → D) : ∀ xs : List α, compT (fun x => R.ok (some (h x))) xs = .ok (xs.map h)
  | [] => rfl
  | x :: xs => by
    unfold compT
    rw [compT_some h xs]
    rfl
@[simp] theorem compT_if {α : Type} (P : α → Prop) [DecidablePred P] (h : α → D) : ∀ xs : List α, compT (fun x => if P x then R.ok (some (h x)) else R.ok none) xs = .ok ((xs.filter fun x => decide (P x)).map h)
  | [] => rfl
  | x :: xs => by
    unfold compT
    rw [compT_if P h xs]
    by_cases c : P x <;> simp [c]
@[simp] theorem compT_if' {α : Type} (P : α → Prop) [DecidablePred P] (h : α → D) : ∀ xs : List α, compT (fun x => if P x then R.ok none else R.ok (some (h x))) xs = .ok ((xs.filter fun x => !decide (P x)).map h)
  | [] => rfl
  | x :: xs => by
    unfold compT
    rw [compT_if' P h xs]
    by_cases c : P x <;> simp [c]
@[simp] theorem compT_nil {α : Type} (f : α → R (Option D)) : compT f [] = .ok [] := rfl
@[simp] theorem compT_cons {α : Type} (f : α → R (Option D)) (x : α) (xs : List α) : compT f (x :: xs) = (match f x with
    | .ok none => compT f xs
    | .ok (some d) => (match compT f xs with | .ok ds => .ok (d :: ds) | _ => .bad)
    | _ => .bad) := rfl
def tsel (b : R Bool) (r : R (Option D)) : R (Option D) := match b with
  | .ok true => r
  | .ok false => .ok none
  | _ => .bad
@[simp] theorem tsel_ok (b : Bool) (r : R (Option D)) : tsel (.ok b) r = if b then r else .ok none := by cases b <;> rfl
def tval (e : E) (s : R SV) : R (Option D) := match s with
  | .ok s => (match fr e s with | some d => .ok (some d) | none => .bad)
  | _ => .bad
@[simp] theorem tval_fz (e : E) (d : D) : tval e (.ok (fz d)) = .ok (some d) := rfl
@[simp] theorem tval_own (e : E) (xs : List D) : tval e (.ok (oL xs)) = if fresh e then .ok (some (.lst xs)) else .bad := by
  show (match fr e (oL xs) with | some d => R.ok (some d) | none => R.bad) = _
  rw [fr_own]
  cases fresh e <;> rfl
def bindO (o : Option Env) (f : Env → R (Option D)) : R (Option D) := match o with
  | none => .bad
  | some ρ => f ρ
@[simp] theorem bindO_some (ρ : Env) (f : Env → R (Option D)) : bindO (some ρ) f = f ρ := rfl
@[simp] theorem ev_comp' {Φ : Phi} {ρ : Env} {elt : E} {tg : Tg} {it : It} {ifs : List E} {own : List Nat} : ev Φ (.comp elt tg it ifs own) ρ = (evi Φ it ρ >>= fun xs => compT (fun x => bindO (bindTg tg x (wipe ρ own)) fun ρ' => tsel (evt Φ ifs ρ') (tval elt (ev Φ elt ρ'))) xs >>= fun out => R.ok (oL out)) := by
  rw [ev]
  congr 1
  funext xs
  rw [compL_T]
  rfl
theorem getElem_range (n i : Nat) : (List.range n)[i]? = if i < n then some i else none := by
  by_cases h : i < n
  · simp [h]
  · simp [h]
  
theorem argsOk_nil (args : List SV) : argsOk [] args = args.all frozenS := by
  unfold argsOk
  rw [Bool.eq_iff_iff, List.all_eq_true, List.all_eq_true]
  constructor
  · intro h s hs
    obtain ⟨i, hi, rfl⟩ := List.mem_iff_getElem.mp hs
    have := h i (List.mem_range.mpr hi)
    simpa [hi] using this
  · intro h i hi
    have hi := List.mem_range.mp hi
    have := h _ (List.getElem_mem hi)
    simp [hi, this]
theorem argsOk_zero (a : SV) (args : List SV) : argsOk [0] (a :: args) = args.all frozenS := by
  rw [← argsOk_nil]
  unfold argsOk
  rw [List.length_cons, List.range_succ_eq_map, List.all_cons, List.all_map]
  simp only [Function.comp_def]
  simp
@[simp] theorem le_lim {n : Nat} (h : n ≤ 16777216) : (n ≤ lim) ↔ True := ⟨fun _ => trivial, fun _ => h⟩
@[simp] theorem lt_lim {n : Nat} (h : n < 16777216) : (n < lim) ↔ True := ⟨fun _ => trivial, fun _ => h⟩
@[simp] theorem mkL_ok {xs : List D} (h : xs.length ≤ 16777216) : mkL xs = some (oL xs) := if_pos h
@[simp] theorem mkT_ok {xs : List D} (h : xs.length ≤ 16777216) : mkT xs = some (fz (.tup xs)) := if_pos h
@[simp] theorem mkS_ok {xs : List Nat} (h : xs.length ≤ 16777216) : mkS xs = some (fz (.str xs)) := if_pos h
@[simp] def u_boolL_map := @boolL_map
@[simp] def u_rngD_nat := @rngD_nat
@[simp] def u_atI_nat := @atI_nat
@[simp] def u_eq_lst := @eq_lst
@[simp] def u_eq_tup := @eq_tup
@[simp] def u_inList_map := @inList_map
@[simp] def u_getK_enc := @getK_enc
@[simp] def u_hasK_map := @hasK_map
@[simp] def u_putKs_map := @putKs_map
@[simp] def u_sortD_map := @sortD_map
@[simp] def u_comp_def := @Function.comp_def
@[simp] def u_argsOk_nil := @argsOk_nil
@[simp] def u_argsOk_zero := @argsOk_zero
@[simp] def u_catL := @catL.eq_def
@[simp] def u_binL := @binL.eq_def
@[simp] def u_runFn := @runFn.eq_def
@[simp] def u_frozenS := @frozenS.eq_def
@[simp] def u_iosOf_1 := @iosOf.eq_1
@[simp] def u_iosOf_2 := @iosOf.eq_2
@[simp] def u_bi1 := @bi1.eq_def
@[simp] def u_isiS := @isiS.eq_def
@[simp] def u_isiOk := @isiOk.eq_def
@[simp] def u_isTy := @isTy.eq_def
@[simp] def u_cmpS := @cmpS.eq_def
@[simp] def u_cmpD := @cmpD.eq_def
@[simp] def u_cmpI := @cmpI.eq_def
@[simp] def u_cmpV := @cmpV.eq_def
@[simp] def u_SV_view := @SV.view.eq_def
@[simp] def u_OV_view := @OV.view.eq_def
@[simp] def u_lenS := @lenS.eq_def
@[simp] def u_SV_str_q := @SV.str?.eq_def
@[simp] def u_SV_its_q := @SV.its?.eq_def
@[simp] def u_SV_dict_q := @SV.dict?.eq_def
@[simp] def u_SV_seq_q := @SV.seq?.eq_def
@[simp] def u_SV_fz_q := @SV.fz?.eq_def
@[simp] def u_attS := @attS.eq_def
@[simp] def u_lookF_1 := @lookF.eq_1
@[simp] def u_lookF_2 := @lookF.eq_2
@[simp] def u_freeze := @freeze.eq_def
@[simp] def u_freezeV := @freezeV.eq_def
@[simp] def u_getV := @getV.eq_def
@[simp] def u_setE := @setE.eq_def
@[simp] def u_getP := @getP.eq_def
@[simp] def u_setP := @setP.eq_def
@[simp] def u_fresh := @fresh.eq_def
@[simp] def u_bools_q := @bools?.eq_def
@[simp] def u_ints_q := @ints?.eq_def
@[simp] def u_intS := @intS.eq_def
@[simp] def u_dctS := @dctS.eq_def
@[simp] def u_binS := @binS.eq_def
@[simp] def u_binI := @binI.eq_def
@[simp] def u_wipe_1 := @wipe.eq_1
@[simp] def u_wipe_2 := @wipe.eq_2
@[simp] def u_seqS := @seqS.eq_def
@[simp] def u_sortedS := @sortedS.eq_def
@[simp] theorem bindTg_tu2 {s t : Tg} {x y : D} {ρ : Env} : bindTg (.tu [s, t]) (.tup [x, y]) ρ = (bindTg s x ρ).bind fun ρ' => bindTg t y ρ' := by
  rw [bindTg, bindTgs]
  cases bindTg s x ρ with
  | none => rfl
  | some ρ' =>
    show bindTgs [t] [y] ρ' = _
    rw [bindTgs]
    show _ = bindTg t y ρ'
    cases bindTg t y ρ' with
    | none => rfl
    | some r => rfl
section
variable {Φ : Phi} {ρ : Env} {e f g x : E} {es : List E} {s : S} {ss : List S}
@[simp] theorem asgT_att {i f : Nat} {k : SV} : asgT Φ e (.att i f) k ρ = (match attP e i f k ρ with | some ρ' => .ok ρ' | none => .bad) := by first | (rw [asgT]; done) | (rw [asgT]; rfl)
@[simp] theorem asgT_sub {p : Pth} {q : E} {k : SV} : asgT Φ e (.sub p q) k ρ = (match ev Φ q ρ with
    | .ok kv => (match fr q kv with
      | some kd => (match putP p kd k.view ρ with | some ρ' => .ok ρ' | none => .bad)
      | none => .bad)
    | _ => .bad) := by first | (rw [asgT]; done) | (rw [asgT]; rfl)
@[simp] theorem asgT_tu {ts : List T} {xs : List D} : asgT Φ e (.tu ts) (fz (.tup xs)) ρ = asgTs Φ ts (xs.map fz) ρ := by first | (rw [asgT]; done) | (rw [asgT]; rfl)
@[simp] theorem asgTs_nil : asgTs Φ [] [] ρ = .ok ρ := by first | (rw [asgTs]; done) | (rw [asgTs]; rfl)
@[simp] theorem asgTs_cons {t : T} {ts : List T} {v : SV} {vs : List SV} : asgTs Φ (t :: ts) (v :: vs) ρ = (match asgT Φ (.lit .non) t v ρ with | .ok ρ' => asgTs Φ ts vs ρ' | _ => .bad) := by first | (rw [asgTs]; done) | (rw [asgTs]; rfl)
@[simp] theorem ex_par {is : List Nat} : ex Φ (.par is es) ρ = RS.of ρ (evk Φ es ρ) fun ss => if is.length = ss.length then .ok (.nx (setEs ρ is ss)) else .bad := by first | (rw [ex]; done) | (rw [ex]; rfl)
@[simp] theorem ex_parz {ts : List T} : ex Φ (.parz ts es) ρ = RS.of ρ (evs Φ es ρ) fun ds => RS.of ρ (asgTs Φ ts (ds.map fz) ρ) fun ρ' => .ok (.nx ρ') := by first | (rw [ex]; done) | (rw [ex]; rfl)
@[simp] theorem ex_retn : ex Φ .retn ρ = .ok (.rt (fz .non) ρ) := by first | (rw [ex]; done) | (rw [ex]; rfl)
@[simp] theorem ex_brk : ex Φ .brk ρ = .ok (.bk ρ) := by first | (rw [ex]; done) | (rw [ex]; rfl)
@[simp] theorem ex_cnt : ex Φ .cnt ρ = .ok (.ct ρ) := by first | (rw [ex]; done) | (rw [ex]; rfl)
@[simp] theorem ex_pas : ex Φ .pas ρ = .ok (.nx ρ) := by first | (rw [ex]; done) | (rw [ex]; rfl)
@[simp] theorem ex_whl {fs : List Nat} {b : List S} : ex Φ (.whl fs e b) ρ = loopW (fun ρ1 => ev Φ e ρ1 >>= boolS) (fun ρ1 => exs Φ b ρ1) wfuel ρ := by first | (rw [ex]; done) | (rw [ex]; rfl)
@[simp] theorem ex_aug {i : Nat} {o : Bop} : ex Φ (.aug i o e) ρ = RS.of ρ (ev Φ e ρ) fun y => (match getV ρ i with
    | some (.o (.fz x)) => RS.of ρ (R.of (binS o (fz x) y)) fun z => (match z with | .o (.fz d) => .ok (.nx (setE ρ i (fz d))) | _ => .bad)
    | _ => .bad) := by first | (rw [ex]; done) | (rw [ex]; rfl)
@[simp] theorem evo_some : evo Φ (some e) ρ = (ev Φ e ρ >>= fun s => match s with | .o (.fz (.int i)) => R.ok (some i) | _ => R.bad) := by first | (rw [evo]; done) | (rw [evo]; rfl)
@[simp] theorem makeS_ok {s : SV} : makeS (.ok (fz .non) [s]) = .ok s := rfl
end
@[simp] def u_setF_1 := @setF.eq_1
@[simp] def u_setF_2 := @setF.eq_2
@[simp] def u_ownE := @ownE.eq_def
@[simp] def u_putP := @putP.eq_def
@[simp] def u_setEs_1 := @setEs.eq_1
@[simp] def u_setEs_2 := @setEs.eq_2
def attV (e : E) (s : SV) : OV := match s with
  | .o y => if ownE e then y else .fz y.view
  | s => .fz s.view
@[simp] theorem attV_fz {e : E} {d : D} : attV e (fz d) = .fz d := by
  show (if ownE e = true then OV.fz d else .fz d) = _
  cases ownE e <;> rfl
@[simp] theorem attV_own {e : E} {xs : List D} : attV e (oL xs) = if ownE e then .lst xs else .fz (.lst xs) := rfl
@[simp] theorem attV_dct {e : E} {ks vs : List D} : attV e (.o (.dct ks vs)) = if ownE e then .dct ks vs else .fz (.dct ks vs) := rfl
@[simp] theorem attP_def {e : E} {i f : Nat} {s : SV} {ρ : Env} : attP e i f s ρ = (match getV ρ i with
  | some (.ins c ns fs) => if ns.length < 900 ∧ f ∉ ns then some (setE ρ i (.ins c (ns ++ [f]) (fs ++ [attV e s]))) else none
  | _ => none) := by
  unfold attP attV
  cases getV ρ i with
  | none => rfl
  | some x => cases x with
    | o => rfl
    | ins c ns fs =>
      by_cases h1 : ns.length < 900 <;> by_cases h2 : f ∈ ns <;> cases s <;> simp [h1, h2]

section
variable {xs ks vs : List D} {k : Int} {i : D} {s : List Nat}
@[simp] theorem idxS_fl : idxS (fz (.lst xs)) (.int k) = (match atI xs k with | some d => some (fz d) | none => none) := rfl
@[simp] theorem idxS_ol : idxS (oL xs) (.int k) = (match atI xs k with | some d => some (fz d) | none => none) := rfl
@[simp] theorem idxS_ft : idxS (fz (.tup xs)) (.int k) = (match atI xs k with | some d => some (fz d) | none => none) := rfl
@[simp] theorem idxS_fs : idxS (fz (.str s)) (.int k) = (match atI s k with | some c => some (fz (.str [c])) | none => none) := rfl
@[simp] theorem idxS_fd : idxS (fz (.dct ks vs)) i = if keyOk ks i then (match getK i ks vs with | some d => some (fz d) | none => none) else none := rfl
@[simp] theorem idxS_od : idxS (.o (.dct ks vs)) i = if keyOk ks i then (match getK i ks vs with | some d => some (fz d) | none => none) else none := rfl
end
@[simp] theorem inS_fl {x : D} {ys : List D} : inS x (fz (.lst ys)) = if plain 60 x && plains 60 ys then some (inList x ys) else none := rfl
@[simp] theorem inS_ol {x : D} {ys : List D} : inS x (oL ys) = if plain 60 x && plains 60 ys then some (inList x ys) else none := rfl
@[simp] theorem inS_ft {x : D} {ys : List D} : inS x (fz (.tup ys)) = if plain 60 x && plains 60 ys then some (inList x ys) else none := rfl
@[simp] theorem inS_fd {x : D} {ks vs : List D} : inS x (fz (.dct ks vs)) = if keyOk ks x then some (hasK x ks) else none := rfl
@[simp] theorem inS_od {x : D} {ks vs : List D} : inS x (.o (.dct ks vs)) = if keyOk ks x then some (hasK x ks) else none := rfl
@[simp] theorem idx_prod0 {α β : Type} [DecidableEq α] [DecidableEq β] [Enc α] [Enc β] (x : α × β) : idxS (fz (enc x)) (.int 0) = some (fz (enc x.1)) := rfl
@[simp] theorem idx_prod1 {α β : Type} [DecidableEq α] [DecidableEq β] [Enc α] [Enc β] (x : α × β) : idxS (fz (enc x)) (.int 1) = some (fz (enc x.2)) := rfl
@[simp] theorem keepS_dct {e : E} {ks vs : List D} : keepS e (.o (.dct ks vs)) = if fresh e then some (.o (.dct ks vs)) else none := rfl
@[simp] theorem keepS_ins {e : E} {c : Nat} {ns : List Nat} {fs : List OV} : keepS e (.ins c ns fs) = if fresh e then some (.ins c ns fs) else none := rfl
@[simp] theorem fr_dct {e : E} {ks vs : List D} : fr e (.o (.dct ks vs)) = if fresh e then some (.dct ks vs) else none := rfl
@[simp] theorem atI_zero {γ : Type} (xs : List γ) : atI xs 0 = xs[0]? := atI_nat xs 0
@[simp] theorem atI_one {γ : Type} (xs : List γ) : atI xs 1 = xs[1]? := atI_nat xs 1
@[simp] theorem atI_2 {γ : Type} (xs : List γ) : atI xs 2 = xs[2]? := atI_nat xs 2
@[simp] theorem atI_3 {γ : Type} (xs : List γ) : atI xs 3 = xs[3]? := atI_nat xs 3
@[simp] theorem atI_4 {γ : Type} (xs : List γ) : atI xs 4 = xs[4]? := atI_nat xs 4
@[simp] theorem atI_5 {γ : Type} (xs : List γ) : atI xs 5 = xs[5]? := atI_nat xs 5
@[simp] theorem atI_6 {γ : Type} (xs : List γ) : atI xs 6 = xs[6]? := atI_nat xs 6
@[simp] theorem atI_7 {γ : Type} (xs : List γ) : atI xs 7 = xs[7]? := atI_nat xs 7
@[simp] theorem atI_8 {γ : Type} (xs : List γ) : atI xs 8 = xs[8]? := atI_nat xs 8
@[simp] theorem atI_9 {γ : Type} (xs : List γ) : atI xs 9 = xs[9]? := atI_nat xs 9
@[simp] theorem atI_10 {γ : Type} (xs : List γ) : atI xs 10 = xs[10]? := atI_nat xs 10
@[simp] theorem atI_11 {γ : Type} (xs : List γ) : atI xs 11 = xs[11]? := atI_nat xs 11
@[simp] theorem atI_12 {γ : Type} (xs : List γ) : atI xs 12 = xs[12]? := atI_nat xs 12
@[simp] theorem atI_13 {γ : Type} (xs : List γ) : atI xs 13 = xs[13]? := atI_nat xs 13
@[simp] theorem atI_14 {γ : Type} (xs : List γ) : atI xs 14 = xs[14]? := atI_nat xs 14
@[simp] theorem atI_15 {γ : Type} (xs : List γ) : atI xs 15 = xs[15]? := atI_nat xs 15
@[simp] theorem atI_neg {γ : Type} (xs : List γ) : atI xs (-1) = xs.getLast? := by
  unfold atI
  rw [if_neg (by decide)]
  cases h : xs with
  | nil => rfl
  | cons x t =>
    rw [if_pos (by simp; omega), List.getLast?_eq_getElem?]
    congr 1
    simp
    omega
theorem exs_append (Φ : Phi) (a b : List S) (ρ : Env) : exs Φ (a ++ b) ρ = RS.seq (exs Φ a ρ) fun ρ' => exs Φ b ρ' := by
  induction a generalizing ρ with
  | nil => simp
  | cons s a ih =>
    rw [List.cons_append, exs_cons, exs_cons]
    cases ex Φ s ρ with
    | ok f => cases f <;> simp [ih]
    | exc => rfl
    | bad => rfl
theorem runFn_rt {Φ : Phi} {f : FnI} {args : List SV} {ρ0 ρ : Env} {s : SV} {ss : List SV} (h1 : args.length = f.np) (h2 : argsOk f.io args = true) (e : args.map some ++ List.replicate (f.nn - f.np) none = ρ0) (h : exs Φ f.body ρ0 = .ok (.rt s ρ)) (hio : iosOf ρ f.io = some ss) : runFn Φ f args = .ok s ss := by
  unfold runFn
  rw [if_pos ⟨h1, h2⟩, e, h]
  show (match iosOf ρ f.io with | some ss => RC.ok s ss | none => .bad) = _
  rw [hio]
theorem rngS_nat {k : Nat} (h : k ≤ 16777216) : rngS [.int (k : Int)] = some ((List.range k).map enc) := by
  show (if (okR (k : Int) && decide ((k : Int) ≤ lim)) = true then some (rngD 0 (k : Int).toNat) else none) = _
  have a : okR (k : Int) = true := by unfold okR; simp; omega
  have b : (k : Int) ≤ (lim : Int) := by unfold lim; omega
  rw [a, decide_eq_true b, Int.toNat_natCast, rngD_nat]
  rfl
/-- a for, by what is so behind each turn -/
theorem loopF_pre {α : Type} {f : D → Env → RS} {g : α → D} {full : List α} (P : List α → Env → Prop) (step : ∀ pre x post ρ, full = pre ++ x :: post → P pre ρ → ∃ ρ', f (g x) ρ = .ok (.nx ρ') ∧ P (pre ++ [x]) ρ') : ∀ (post pre : List α) (ρ : Env), full = pre ++ post → P pre ρ → ∃ ρ', loopF f (post.map g) ρ = .ok (.nx ρ') ∧ P full ρ'
  | [], pre, ρ, h, p => ⟨ρ, rfl, by rw [h, List.append_nil]; exact p⟩
  | x :: post, pre, ρ, h, p => by
    obtain ⟨ρ1, e1, p1⟩ := step pre x post ρ h p
    obtain ⟨ρ2, e2, p2⟩ := loopF_pre P step post (pre ++ [x]) ρ1 (by rw [h, List.append_assoc]; rfl) p1
    refine ⟨ρ2, ?_, p2⟩
    rw [List.map_cons]
    unfold loopF
    rw [e1]
    exact e2
theorem loopF_run {α : Type} {f : D → Env → RS} {g : α → D} {full : List α} (P : List α → Env → Prop) {ρ : Env} (h0 : P [] ρ) (step : ∀ pre x post ρ, full = pre ++ x :: post → P pre ρ → ∃ ρ', f (g x) ρ = .ok (.nx ρ') ∧ P (pre ++ [x]) ρ') : ∃ ρ', loopF f (full.map g) ρ = .ok (.nx ρ') ∧ P full ρ' :=
  loopF_pre P step full [] ρ rfl h0
end Pd

end
section
set_option linter.all false
set_option autoImplicit false
set_option Elab.async false
/-! Pd.Sch: all covers, as sublists in order. Plain Lean. -/
namespace Pd.Cov
variable {δ γ : Type} [DecidableEq δ] [DecidableEq γ]
/-- all sublists but the empty one, in order -/
def nes : List δ → List (List δ)
  | [] => []
  | x :: xs => ([] :: nes xs).map (x :: ·) ++ nes xs
theorem nes_cons (x : δ) (xs : List δ) : nes (x :: xs) = ([] :: nes xs).map (x :: ·) ++ nes xs := (rfl)
def subs (xs : List δ) : List (List δ) := [] :: nes xs
variable (gs : δ → List γ)
def covB : List γ → List δ → Bool
  | goals, [] => goals.isEmpty
  | goals, d :: w => w.all (apart gs d) && covB (still gs goals d) w
def covL (left : List δ) (goals : List γ) : List (List δ) := (subs left).filter (covB gs goals)
def tailsL (goals : List γ) : List δ → List (List δ)
  | [] => []
  | d :: rest => (covL gs (going gs rest d) (still gs goals d)).map (d :: ·) ++ tailsL goals rest
def hasB (left : List δ) (goals : List γ) : Bool := !(covL gs left goals).isEmpty
variable {gs}
theorem nes_filter (p : δ → Bool) : ∀ xs : List δ, (nes xs).filter (fun w => w.all p) = nes (xs.filter p)
  | [] => rfl
  | x :: xs => by
    have ih := nes_filter p xs
    rw [nes_cons, List.filter_append, List.filter_map, ih]
    by_cases c : p x = true
    · rw [List.filter_cons_of_pos c, nes_cons]
      have e : (fun w : List δ => w.all p) ∘ (x :: ·) = fun w => w.all p := by
        funext w
        simp [c]
      rw [e, List.filter_cons_of_pos (by rfl), ih]
    · rw [List.filter_cons_of_neg c]
      have e : (fun w : List δ => w.all p) ∘ (x :: ·) = fun w => false := by
        funext w
        simp [c]
      rw [e]
      simp
theorem subs_filter (p : δ → Bool) (xs : List δ) : (subs xs).filter (fun w => w.all p) = subs (xs.filter p) := by
  unfold subs
  rw [List.filter_cons_of_pos (by rfl), nes_filter]
theorem nes_cov (goals : List γ) : ∀ left : List δ, (nes left).filter (covB gs goals) = tailsL gs goals left
  | [] => rfl
  | d :: rest => by
    unfold tailsL covL
    rw [nes_cons, List.filter_append, List.filter_map, nes_cov goals rest]
    congr 1
    congr 1
    show (subs rest).filter _ = _
    have e : covB gs goals ∘ (d :: ·) = fun w => w.all (apart gs d) && covB gs (still gs goals d) w := rfl
    rw [e]
    show _ = (subs (rest.filter (apart gs d))).filter _
    rw [← subs_filter, List.filter_filter]
    congr 1
    funext w
    exact Bool.and_comm _ _
theorem covL_eq (left : List δ) (goals : List γ) : covL gs left goals = (if goals.isEmpty then [[]] else []) ++ tailsL gs goals left := by
  unfold covL subs
  rw [← nes_cov]
  cases goals with
  | nil => rw [List.filter_cons_of_pos (by rfl)]; rfl
  | cons g t => rw [List.filter_cons_of_neg (by simp [covB])]; rfl
theorem mem_nes {w : List δ} : ∀ {xs : List δ}, w ∈ nes xs ↔ w ≠ [] ∧ w.Sublist xs
  | [] => by simp [nes]
  | x :: xs => by
    rw [nes_cons, List.mem_append, List.mem_map, mem_nes (xs := xs)]
    constructor
    · rintro (⟨v, hv, rfl⟩ | ⟨h1, h2⟩)
      · refine ⟨by simp, ?_⟩
        rcases List.mem_cons.mp hv with rfl | hv
        · simp
        · exact (mem_nes.mp hv).2.cons_cons x
      · exact ⟨h1, h2.cons x⟩
    · rintro ⟨h1, h2⟩
      cases h2 with
      | cons _ h => exact .inr ⟨h1, h⟩
      | cons_cons _ h =>
        rename_i v
        refine .inl ⟨v, ?_, rfl⟩
        by_cases c : v = []
        · simp [c]
        · exact List.mem_cons_of_mem _ (mem_nes.mpr ⟨c, h⟩)
theorem mem_subs {w xs : List δ} : w ∈ subs xs ↔ w.Sublist xs := by
  unfold subs
  rw [List.mem_cons, mem_nes]
  constructor
  · rintro (rfl | h)
    · exact List.nil_sublist _
    · exact h.2
  · intro h
    by_cases c : w = []
    · exact .inl c
    · exact .inr ⟨c, h⟩
theorem covB_iff : ∀ {w : List δ} {goals : List γ}, w.Nodup → (covB gs goals w = true ↔ (∀ g ∈ goals, ∃ d ∈ w, g ∈ gs d) ∧ ∀ d ∈ w, ∀ e ∈ w, d ≠ e → ∀ g ∈ gs d, g ∉ gs e)
  | [], goals, _ => by
    cases goals with
    | nil => simp [covB]
    | cons g t =>
      constructor
      · intro h; cases h
      · intro h
        obtain ⟨d, hd, _⟩ := h.1 g List.mem_cons_self
        cases hd
  | d :: w, goals, h => by
    rw [List.nodup_cons] at h
    have ih := @covB_iff w (still gs goals d) h.2
    unfold covB
    rw [Bool.and_eq_true, ih, List.all_eq_true]
    have ap : ∀ x, apart gs d x = true ↔ ∀ g ∈ gs x, g ∉ gs d := fun x => by
      unfold apart
      rw [Bool.not_eq_true', List.any_eq_false]
      simp
    constructor
    · rintro ⟨h1, h2, h3⟩
      refine ⟨fun g hg => ?_, fun x hx y hy ne g hg => ?_⟩
      · by_cases c : g ∈ gs d
        · exact ⟨d, List.mem_cons_self, c⟩
        · obtain ⟨x, hx, q⟩ := h2 g (mem_still.mpr ⟨hg, c⟩)
          exact ⟨x, List.mem_cons_of_mem _ hx, q⟩
      · rcases List.mem_cons.mp hx with e | hx' <;> rcases List.mem_cons.mp hy with f | hy'
        · exact absurd (e.trans f.symm) ne
        · exact fun c => (ap y).mp (h1 y hy') g c (e ▸ hg)
        · exact f ▸ (ap x).mp (h1 x hx') g hg
        · exact h3 x hx' y hy' ne g hg
    · rintro ⟨h1, h2⟩
      have ne : ∀ x ∈ w, x ≠ d := fun x hx e => h.1 (e ▸ hx)
      refine ⟨fun x hx => (ap x).mpr fun g hg => h2 x (List.mem_cons_of_mem _ hx) d List.mem_cons_self (ne x hx) g hg, fun g hg => ?_, fun x hx y hy => h2 x (List.mem_cons_of_mem _ hx) y (List.mem_cons_of_mem _ hy)⟩
      obtain ⟨g1, g2⟩ := mem_still.mp hg
      obtain ⟨x, hx, q⟩ := h1 g g1
      rcases List.mem_cons.mp hx with rfl | hx
      · exact absurd q g2
      · exact ⟨x, hx, q⟩
variable {left : List δ} {goals : List γ}
theorem mem_covL (h : left.Nodup) {w : List δ} : w ∈ covL gs left goals ↔ w.Sublist left ∧ IsCov gs left goals w := by
  unfold covL
  rw [List.mem_filter, mem_subs]
  constructor
  · rintro ⟨h1, h2⟩
    obtain ⟨c1, c2⟩ := (covB_iff (h1.nodup h)).mp h2
    exact ⟨h1, h1.nodup h, fun d hd => h1.mem hd, c1, c2⟩
  · rintro ⟨h1, h2⟩
    exact ⟨h1, (covB_iff h2.nod).mpr ⟨h2.all, h2.dis⟩⟩
theorem IsCov.perm {v w : List δ} (p : v.Perm w) (c : IsCov gs left goals v) : IsCov gs left goals w where
  nod := p.nodup_iff.mp c.nod
  sub d hd := c.sub d (p.mem_iff.mpr hd)
  all g hg := by
    obtain ⟨d, hd, q⟩ := c.all g hg
    exact ⟨d, p.mem_iff.mp hd, q⟩
  dis d hd e he := c.dis d (p.mem_iff.mpr hd) e (p.mem_iff.mpr he)
theorem sub_of (h : left.Nodup) {w : List δ} (hw : w.Nodup) (hs : ∀ d ∈ w, d ∈ left) : ∃ v : List δ, v.Sublist left ∧ v.Perm w :=
  ⟨left.filter fun d => decide (d ∈ w), List.filter_sublist, (List.perm_ext_iff_of_nodup (h.filter _) hw).mpr fun d => by
    rw [List.mem_filter]
    simp
    exact hs d⟩
theorem covL_some (h : left.Nodup) {w : List δ} (c : IsCov gs left goals w) : ∃ v ∈ covL gs left goals, v.Perm w := by
  obtain ⟨v, hv, p⟩ := sub_of h c.nod c.sub
  exact ⟨v, (mem_covL h).mpr ⟨hv, c.perm p.symm⟩, p⟩
theorem hasB_iff (h : left.Nodup) : hasB gs left goals = true ↔ ∃ w, IsCov gs left goals w := by
  unfold hasB
  constructor
  · intro e
    cases c : covL gs left goals with
    | nil => rw [c] at e; cases e
    | cons w t => exact ⟨w, ((mem_covL h).mp (by rw [c]; exact List.mem_cons_self)).2⟩
  · rintro ⟨w, hw⟩
    obtain ⟨v, hv, _⟩ := covL_some h hw
    cases c : covL gs left goals with
    | nil => rw [c] at hv; cases hv
    | cons => rfl
theorem IsCov.cons' {d : δ} {w : List δ} (hd : d ∈ left) (hne : gs d ≠ []) (hw : IsCov gs (going gs left d) (still gs goals d) w) : IsCov gs left goals (d :: w) where
  nod := List.nodup_cons.mpr ⟨fun c => by
    have := (mem_going.mp (hw.sub d c)).2
    cases e : gs d with
    | nil => exact hne e
    | cons g t =>
      rw [e] at this
      exact this g List.mem_cons_self List.mem_cons_self, hw.nod⟩
  sub x hx := by
    rcases List.mem_cons.mp hx with rfl | hx
    · exact hd
    · exact (mem_going.mp (hw.sub x hx)).1
  all g hg := by
    by_cases c : g ∈ gs d
    · exact ⟨d, List.mem_cons_self, c⟩
    · obtain ⟨x, hx, q⟩ := hw.all g (mem_still.mpr ⟨hg, c⟩)
      exact ⟨x, List.mem_cons_of_mem _ hx, q⟩
  dis x hx y hy ne g hg := by
    rcases List.mem_cons.mp hx with e | hx'
    · rcases List.mem_cons.mp hy with f | hy'
      · exact absurd (e.trans f.symm) ne
      · exact fun c => (mem_going.mp (hw.sub y hy')).2 g c (e ▸ hg)
    · rcases List.mem_cons.mp hy with f | hy'
      · exact f ▸ (mem_going.mp (hw.sub x hx')).2 g hg
      · exact hw.dis x hx' y hy' ne g hg
theorem hasB_nil (left : List δ) : hasB gs left ([] : List γ) = true := by
  unfold hasB
  rw [covL_eq]
  rfl
theorem hasB_step (h : left.Nodup) (hne : ∀ d ∈ left, gs d ≠ []) {g : γ} (hg : g ∈ goals) {rows : List δ} (hr : ∀ d, d ∈ rows ↔ d ∈ left ∧ g ∈ gs d) : hasB gs left goals = rows.any fun d => hasB gs (going gs left d) (still gs goals d) := by
  rw [Bool.eq_iff_iff, hasB_iff h, List.any_eq_true]
  constructor
  · rintro ⟨w, hw⟩
    obtain ⟨d, hd, q⟩ := hw.all g hg
    exact ⟨d, (hr d).mpr ⟨hw.sub d hd, q⟩, (hasB_iff (nodup_going h d)).mpr ⟨_, hw.erase hd⟩⟩
  · rintro ⟨d, hd, q⟩
    obtain ⟨w, hw⟩ := (hasB_iff (nodup_going h d)).mp q
    have := ((hr d).mp hd).1
    exact ⟨_, hw.cons' this (hne d this)⟩
theorem going_lt {d : δ} (hd : d ∈ left) (hne : gs d ≠ []) : (going gs left d).length < left.length := by
  refine Nat.lt_of_le_of_ne (List.length_filter_le _ _) fun c => ?_
  have := List.length_filter_eq_length_iff.mp c d hd
  unfold apart at this
  cases e : gs d with
  | nil => exact hne e
  | cons g t => rw [e] at this; simp at this
theorem withit' {d : δ} (hd : d ∈ left) (hne : gs d ≠ []) : (∃ w, IsCov gs (going gs left d) (still gs goals d) w) ↔ ∃ w, IsCov gs left goals w ∧ d ∈ w :=
  ⟨fun ⟨w, q⟩ => ⟨d :: w, q.cons' hd hne, List.mem_cons_self⟩, fun ⟨w, q, c⟩ => ⟨w.erase d, q.erase c⟩⟩
/-- the pieces, by place -/
theorem tailsL_range (goals : List γ) (d0 : δ) : ∀ left : List δ, tailsL gs goals left = (List.range left.length).flatMap fun i => (covL gs (going gs (left.drop (i + 1)) (left.getD i d0)) (still gs goals (left.getD i d0))).map (left.getD i d0 :: ·)
  | [] => rfl
  | d :: rest => by
    unfold tailsL
    rw [tailsL_range goals d0 rest, List.length_cons, List.range_succ_eq_map, List.flatMap_cons, List.flatMap_map]
    rfl
theorem nes_map {ε : Type} [DecidableEq ε] (f : δ → ε) : ∀ xs : List δ, nes (xs.map f) = (nes xs).map (List.map f)
  | [] => rfl
  | x :: xs => by
    rw [List.map_cons]
    rw [nes_cons, nes_cons, nes_map f xs, List.map_append, List.map_map]
    simp [Function.comp_def]
theorem subs_map {ε : Type} [DecidableEq ε] (f : δ → ε) (xs : List δ) : subs (xs.map f) = (subs xs).map (List.map f) := by
  unfold subs
  rw [nes_map]
  rfl
/-! in order -/
section
variable {α : Type} [DecidableEq α] [Enc α]
theorem leE_nil (w : List α) : leE [] w := by
  show (!ltDs (w.map Enc.enc) []) = true
  cases w <;> simp [ltDs]
theorem leE_cons (x : α) {u v : List α} (h : leE u v) : leE (x :: u) (x :: v) := by
  show (!ltDs (Enc.enc x :: v.map Enc.enc) (Enc.enc x :: u.map Enc.enc)) = true
  simp only [ltDs, Enc.eqE, decide_true, if_true]
  exact h
theorem leE_lt {x y : α} (h : leE x y) (ne : x ≠ y) (u v : List α) : leE (x :: u) (y :: v) := by
  show (!ltDs (Enc.enc y :: v.map Enc.enc) (Enc.enc x :: u.map Enc.enc)) = true
  have e : ¬ y = x := fun e => ne e.symm
  simp only [ltDs, Enc.eqE, decide_eq_true_eq, if_neg e]
  exact h
theorem nes_sorted : ∀ {xs : List α}, xs.Nodup → xs.Pairwise leE → (nes xs).Pairwise leE
  | [], _, _ => List.Pairwise.nil
  | x :: xs, h, s => by
    rw [List.nodup_cons] at h
    rw [List.pairwise_cons] at s
    have ih := nes_sorted h.2 s.2
    rw [nes_cons, List.pairwise_append, List.pairwise_map, List.pairwise_cons]
    refine ⟨⟨fun w _ => leE_cons x (leE_nil w), ih.imp fun q => leE_cons x q⟩, ih, fun a ha b hb => ?_⟩
    obtain ⟨u, _, rfl⟩ := List.mem_map.mp ha
    obtain ⟨hb1, hb2⟩ := mem_nes.mp hb
    cases b with
    | nil => exact absurd rfl hb1
    | cons y v =>
      have hy : y ∈ xs := hb2.mem List.mem_cons_self
      exact leE_lt (s.1 y hy) (fun e => h.1 (e ▸ hy)) u v
theorem subs_sorted {xs : List α} (h : xs.Nodup) (s : xs.Pairwise leE) : (subs xs).Pairwise leE := by
  unfold subs
  rw [List.pairwise_cons]
  exact ⟨fun w _ => leE_nil w, nes_sorted h s⟩
end
theorem nes_nodup : ∀ {xs : List δ}, xs.Nodup → (nes xs).Nodup
  | [], _ => List.nodup_nil
  | x :: xs, h => by
    rw [List.nodup_cons] at h
    have ih := nes_nodup h.2
    rw [nes_cons, List.nodup_append]
    refine ⟨?_, ih, fun a ha b hb => ?_⟩
    · unfold List.Nodup
      rw [List.pairwise_map, List.pairwise_cons]
      refine ⟨fun w hw => ?_, ih.imp fun q => by simpa using q⟩
      have := (mem_nes.mp hw).1
      simpa using this
    · obtain ⟨u, _, rfl⟩ := List.mem_map.mp ha
      rintro rfl
      exact h.1 ((mem_nes.mp hb).2.mem List.mem_cons_self)
theorem subs_nodup {xs : List δ} (h : xs.Nodup) : (subs xs).Nodup := by
  unfold subs
  rw [List.nodup_cons]
  exact ⟨fun q => (mem_nes.mp q).1 rfl, nes_nodup h⟩
end Pd.Cov

end
section
set_option linter.all false
set_option autoImplicit false
set_option Elab.async false
set_option maxRecDepth 100000
/-! Pd.Sim2: enumerate, zip, index, list(range()) by simp; loops that end early. Plain Lean. -/
namespace Pd
open Enc (enc)
section
variable {Φ : Phi} {ρ : Env} {e f : E} {es : List E}
@[simp] theorem evi_enm : evi Φ (.enm e) ρ = (ev Φ e ρ >>= fun s => match s.seq? with | some xs => R.ok (enumD 0 xs) | none => .bad) := by first | (rw [evi]; done) | (rw [evi]; rfl)
@[simp] theorem evif_enm : evif Φ (.enm e) ρ = (ev Φ e ρ >>= fun s => R.of (keepS e s) >>= fun k => match k.seq? with | some xs => R.ok (enumD 0 xs) | none => .bad) := rfl
@[simp] theorem evi_zip : evi Φ (.zip e f) ρ = (ev Φ e ρ >>= fun s => ev Φ f ρ >>= fun t => R.of (zipS s t)) := by first | (rw [evi]; done) | (rw [evi]; rfl)
@[simp] theorem evif_zip : evif Φ (.zip e f) ρ = (ev Φ e ρ >>= fun s => ev Φ f ρ >>= fun t => R.of (zipS s t)) := rfl
@[simp] theorem ev_lrng : ev Φ (.bi .lrng es) ρ = (evs Φ es ρ >>= fun ds => R.of (rngS ds) >>= fun xs => R.ok (oL xs)) := by first | (rw [ev]; done) | (rw [ev]; rfl)
@[simp] theorem ev_trng : ev Φ (.bi .trng es) ρ = (evs Φ es ρ >>= fun ds => R.of (rngS ds) >>= fun xs => R.ok (fz (.tup xs))) := by first | (rw [ev]; done) | (rw [ev]; rfl)
theorem ev_mt' {m : Mt} : ev Φ (.mt m e es) ρ = (ev Φ e ρ >>= fun x => if mtOk m x then (evs Φ es ρ >>= fun ds => R.of (mtS m x ds)) else R.bad) := by first | (rw [ev]; done) | (rw [ev]; rfl)
@[simp] theorem fr_ins {c : Nat} {ns : List Nat} {fs : List OV} : fr e (.ins c ns fs) = if fresh e then some (.ins c ns (fs.map OV.view)) else none := rfl
@[simp] theorem zip_tt {xs ys : List D} : zipS (fz (.tup xs)) (fz (.tup ys)) = some (zipD xs ys) := rfl
@[simp] theorem zip_ll {xs ys : List D} : zipS (fz (.lst xs)) (fz (.lst ys)) = some (zipD xs ys) := rfl
end
section
variable {α β : Type} [DecidableEq α] [DecidableEq β] [Enc α] [Enc β]
theorem enumD_map (d0 : α) : ∀ (n : Nat) (xs : List α), enumD n (xs.map enc) = (List.range xs.length).map fun i => enc (n + i, xs.getD i d0)
  | _, [] => rfl
  | n, x :: xs => by
    rw [List.map_cons]
    unfold enumD
    rw [enumD_map d0 (n + 1) xs, List.length_cons, List.range_succ_eq_map, List.map_cons, List.map_map]
    congr 1
    refine List.map_congr_left fun i _ => ?_
    simp [Nat.add_assoc, Nat.add_comm 1 i]
theorem enumD_0 (d0 : α) (xs : List α) : enumD 0 (xs.map enc) = (List.range xs.length).map fun i => enc (i, xs.getD i d0) := by
  rw [enumD_map d0]
  simp
theorem zipD_map : ∀ (xs : List α) (ys : List β), zipD (xs.map enc) (ys.map enc) = (xs.zip ys).map enc
  | [], _ => by simp [zipD]
  | x :: xs, [] => by simp [zipD]
  | x :: xs, y :: ys => by simp [zipD, zipD_map xs ys, enc_prod]
theorem posK_map (x : α) : ∀ xs : List α, posK (enc x) (xs.map enc) = if x ∈ xs then some (xs.idxOf x) else none
  | [] => rfl
  | y :: xs => by
    rw [List.map_cons]
    unfold posK
    rw [Enc.eqE, posK_map x xs]
    by_cases h : y = x
    · subst h; simp
    · have h' : ¬ x = y := fun e => h e.symm
      have hb : (y == x) = false := by simp [h]
      by_cases hx : x ∈ xs <;> simp [h, h', hx, List.idxOf_cons, hb]
end
theorem runFn_nx {Φ : Phi} {f : FnI} {args : List SV} {ρ0 ρ : Env} {ss : List SV} (h1 : args.length = f.np) (h2 : argsOk f.io args = true) (e : args.map some ++ List.replicate (f.nn - f.np) none = ρ0) (h : exs Φ f.body ρ0 = .ok (.nx ρ)) (hio : iosOf ρ f.io = some ss) : runFn Φ f args = .ok (fz .non) ss := by
  unfold runFn
  rw [if_pos ⟨h1, h2⟩, e, h]
  show (match iosOf ρ f.io with | some ss => RC.ok (fz .non) ss | none => .bad) = _
  rw [hio]
theorem runFn_ex {Φ : Phi} {f : FnI} {args : List SV} {ρ0 ρ : Env} {c : Nat} {ss : List SV} (h1 : args.length = f.np) (h2 : argsOk f.io args = true) (e : args.map some ++ List.replicate (f.nn - f.np) none = ρ0) (h : exs Φ f.body ρ0 = .exc c ρ) (hio : iosOf ρ f.io = some ss) : runFn Φ f args = .exc c ss := by
  unfold runFn
  rw [if_pos ⟨h1, h2⟩, e, h]
  show (match iosOf ρ f.io with | some ss => RC.exc c ss | none => .bad) = _
  rw [hio]
theorem loopF_any {α : Type} {f : D → Env → RS} {g : α → D} (r : α → Bool) (P : Env → Prop) {v : SV} : ∀ {xs : List α}, (∀ x ∈ xs, ∀ ρ, P ρ → if r x = true then ∃ ρ', f (g x) ρ = .ok (.rt v ρ') else ∃ ρ', f (g x) ρ = .ok (.nx ρ') ∧ P ρ') → ∀ {ρ}, P ρ → if xs.any r = true then ∃ ρ', loopF f (xs.map g) ρ = .ok (.rt v ρ') else ∃ ρ', loopF f (xs.map g) ρ = .ok (.nx ρ') ∧ P ρ'
  | [], _, ρ, h => by
    rw [if_neg (by simp)]
    exact ⟨ρ, rfl, h⟩
  | x :: xs, e, ρ, h => by
    have q := e x List.mem_cons_self ρ h
    rw [List.any_cons, List.map_cons]
    unfold loopF
    by_cases c : r x = true
    · rw [if_pos c] at q
      obtain ⟨ρ', q⟩ := q
      rw [c, if_pos (by simp), q]
      exact ⟨ρ', rfl⟩
    · rw [if_neg c] at q
      obtain ⟨ρ', q, h'⟩ := q
      rw [q, show r x = false by simpa using c, Bool.false_or]
      exact loopF_any r P (fun y hy => e y (List.mem_cons_of_mem _ hy)) h'
end Pd

end
section
set_option Elab.async false
set_option linter.all false
set_option maxRecDepth 100000
set_option maxHeartbeats 0
namespace Pd.k66
open PySem PySem.Spec PyProof.Rows L2
def top (i : Nat) : Stmt := PySem.Challenge.pw_coverwright_k66_whole_domino_papers.main.body.getD i (.Pass ⟨0, 0, 0, 0⟩)
@[simp] abbrev c_Laying : Nat := 0
@[simp] abbrev fl_places : Nat := 0
@[simp] abbrev fl_goals : Nat := 1
@[simp] abbrev fl__goals : Nat := 2
@[simp] abbrev fl_having : Nat := 3
@[simp] abbrev e_CoverError : Nat := 0
@[simp] abbrev e_BadBoard : Nat := 1
@[simp] abbrev n__wall : Nat := 0
@[simp] abbrev n_is_whole : Nat := 1
@[simp] abbrev n_is_board : Nat := 2
@[simp] abbrev n_check_board : Nat := 3
@[simp] abbrev n_pairs_to : Nat := 4
@[simp] abbrev n_places_to : Nat := 5
@[simp] abbrev n_pair_of : Nat := 6
@[simp] abbrev n_cells_to : Nat := 7
@[simp] abbrev n_Laying_init : Nat := 8
@[simp] abbrev n_Laying_going : Nat := 9
@[simp] abbrev n_Laying_still : Nat := 10
@[simp] abbrev n_Laying_scarce : Nat := 11
@[simp] abbrev n_Laying_has_any : Nat := 12
@[simp] abbrev n_Laying_all_of : Nat := 13
@[simp] abbrev n_Laying_paper : Nat := 14
@[simp] abbrev n__layings : Nat := 15
@[simp] abbrev n__none : Nat := 16
@[simp] abbrev n_first_laying : Nat := 17
@[simp] abbrev n__path : Nat := 18
@[simp] abbrev n_paper_fault : Nat := 19
@[simp] abbrev n__law_draws : Nat := 20
@[simp] abbrev n__law_places : Nat := 21
@[simp] abbrev n__law_pairs : Nat := 22
@[simp] abbrev n__law_pair : Nat := 23
@[simp] abbrev n__law_tilings : Nat := 24
@[simp] abbrev n__law_board : Nat := 25
@[simp] abbrev n__law_all : Nat := 26
@[simp] abbrev n__law_goals : Nat := 27
@[simp] abbrev n__law_path : Nat := 28
@[simp] abbrev n__law_bent : Nat := 29
@[simp] abbrev n_law : Nat := 30
/-- _wall(k): 0 k -/
def b__wall : List S := [
  .whl [] (.lit (.bl true)) [.pas]]
def i__wall : FnI := ⟨1, 1, [], b__wall⟩
def x0 : FnX := ⟨⟨("_wall", none), "_wall", "_wall", defArgs (top 0), ["k"], ["k"], defScope (top 0), defBody (top 0), i__wall⟩, defArgs (top 0)⟩
/-- is_whole(value, least, most): 0 value 1 least 2 most -/
def b_is_whole : List S := [
  .ret (.and (.bi (.isi .int) [(.var 0)]) (.and (.not (.bi (.isi .bool) [(.var 0)])) (.chain .le .le (.var 1) (.var 0) (.var 2))))]
def i_is_whole : FnI := ⟨3, 3, [], b_is_whole⟩
def x1 : FnX := ⟨⟨("is_whole", none), "is_whole", "is_whole", defArgs (top 5), ["value", "least", "most"], ["value", "least", "most"], defScope (top 5), defBody (top 5), i_is_whole⟩, defArgs (top 5)⟩
/-- is_board(value): 0 value 1 row 2 one -/
def b_is_board : List S := [
  .if_ (.or (.not (.bi (.isi .tuple) [(.var 0)])) (.not (.chain .le .le (.lit (.int 1)) (.bi .len [(.var 0)]) (.bin .add (.lit (.int 4)) (.lit (.int 1)))))) [.ret (.lit (.bl false))] [],
  .if_ (.not (.bi .all [(.comp (.and (.bi (.isi .tuple) [(.var 1)]) (.cmp .eq (.bi .len [(.var 1)]) (.bin .add (.bi .len [(.var 0)]) (.lit (.int 1))))) (.nm 1) (.seq (.var 0)) [] [1])])) [.ret (.lit (.bl false))] [],
  .ret (.bi .all [(.comp (.bi .all [(.comp (.call n_is_whole [(.var 2), (.lit (.int 0)), (.bin .sub (.bi .len [(.var 0)]) (.lit (.int 1)))]) (.nm 2) (.seq (.var 1)) [] [2])]) (.nm 1) (.seq (.var 0)) [] [1])])]
def i_is_board : FnI := ⟨1, 3, [], b_is_board⟩
def x2 : FnX := ⟨⟨("is_board", none), "is_board", "is_board", defArgs (top 8), ["value"], ["value", "row", "one"], defScope (top 8), defBody (top 8), i_is_board⟩, defArgs (top 8)⟩
/-- check_board(value): 0 value -/
def b_check_board : List S := [
  .if_ (.not (.call n_is_board [(.var 0)])) [.rse e_BadBoard] []]
def i_check_board : FnI := ⟨1, 1, [], b_check_board⟩
def x3 : FnX := ⟨⟨("check_board", none), "check_board", "check_board", defArgs (top 9), ["value"], ["value"], defScope (top 9), defBody (top 9), i_check_board⟩, defArgs (top 9)⟩
/-- pairs_to(most): 0 most 1 found 2 one 3 other -/
def b_pairs_to : List S := [
  .asg (.nm 1) (.lst []),
  .for_ (.nm 2) (.rng [(.bin .add (.var 0) (.lit (.int 1)))]) [.ext (.v 1) (.comp (.tup [(.var 2), (.var 3)]) (.nm 3) (.rng [(.var 2), (.bin .add (.var 0) (.lit (.int 1)))]) [] [3])],
  .retv 1]
def i_pairs_to : FnI := ⟨1, 4, [], b_pairs_to⟩
def x4 : FnX := ⟨⟨("pairs_to", none), "pairs_to", "pairs_to", defArgs (top 10), ["most"], ["most", "found", "one", "other"], defScope (top 10), defBody (top 10), i_pairs_to⟩, defArgs (top 10)⟩
/-- places_to(most): 0 most 1 found 2 row 3 column -/
def b_places_to : List S := [
  .asg (.nm 1) (.lst []),
  .for_ (.nm 2) (.rng [(.bin .add (.var 0) (.lit (.int 1)))]) [.for_ (.nm 3) (.rng [(.bin .add (.var 0) (.lit (.int 2)))]) [.if_ (.cmp .lt (.var 3) (.bin .add (.var 0) (.lit (.int 1)))) [.app (.v 1) (.tup [(.tup [(.var 2), (.var 3)]), (.tup [(.var 2), (.bin .add (.var 3) (.lit (.int 1)))])])] [], .if_ (.cmp .lt (.var 2) (.var 0)) [.app (.v 1) (.tup [(.tup [(.var 2), (.var 3)]), (.tup [(.bin .add (.var 2) (.lit (.int 1))), (.var 3)])])] []]],
  .ret (.bi .sorted [(.var 1)])]
def i_places_to : FnI := ⟨1, 4, [], b_places_to⟩
def x5 : FnX := ⟨⟨("places_to", none), "places_to", "places_to", defArgs (top 11), ["most"], ["most", "found", "row", "column"], defScope (top 11), defBody (top 11), i_places_to⟩, defArgs (top 11)⟩
/-- pair_of(board, domino): 0 board 1 domino 2 numbers 3 row 4 column -/
def b_pair_of : List S := [
  .asg (.nm 2) (.bi .sorted [(.comp (.idx (.idx (.var 0) (.var 3)) (.var 4)) (.tu [(.nm 3), (.nm 4)]) (.seq (.var 1)) [] [3, 4])]),
  .frz [2],
  .ret (.tup [(.idx (.var 2) (.lit (.int 0))), (.idx (.var 2) (.lit (.int 1)))])]
def i_pair_of : FnI := ⟨2, 5, [], b_pair_of⟩
def x6 : FnX := ⟨⟨("pair_of", none), "pair_of", "pair_of", defArgs (top 12), ["board", "domino"], ["board", "domino", "numbers", "row", "column"], defScope (top 12), defBody (top 12), i_pair_of⟩, defArgs (top 12)⟩
/-- cells_to(most): 0 most 1 found 2 row 3 column -/
def b_cells_to : List S := [
  .asg (.nm 1) (.lst []),
  .for_ (.nm 2) (.rng [(.bin .add (.var 0) (.lit (.int 1)))]) [.ext (.v 1) (.comp (.tup [(.var 2), (.var 3)]) (.nm 3) (.rng [(.bin .add (.var 0) (.lit (.int 2)))]) [] [3])],
  .retv 1]
def i_cells_to : FnI := ⟨1, 4, [], b_cells_to⟩
def x7 : FnX := ⟨⟨("cells_to", none), "cells_to", "cells_to", defArgs (top 13), ["most"], ["most", "found", "row", "column"], defScope (top 13), defBody (top 13), i_cells_to⟩, defArgs (top 13)⟩
/-- Laying.__init__(self, board): 0 self 1 board 2 most 3 domino 4 goal 5 pair 6 cell -/
def b_Laying_init : List S := [
  .asg (.nm 2) (.bin .sub (.bi .len [(.var 1)]) (.lit (.int 1))),
  .asg (.att 0 fl_places) (.call n_places_to [(.var 2)]),
  .asg (.att 0 fl_goals) (.bin .add (.comp (.tup [(.lit (.str [99, 101, 108, 108])), (.var 6)]) (.nm 6) (.seq (.call n_cells_to [(.var 2)])) [] [6]) (.comp (.tup [(.lit (.str [112, 97, 105, 114])), (.var 5)]) (.nm 5) (.seq (.call n_pairs_to [(.var 2)])) [] [5])),
  .asg (.att 0 fl__goals) (.dnew),
  .for_ (.nm 3) (.seq (.att (.var 0) fl_places)) [.asg (.nm 5) (.call n_pair_of [(.var 1), (.var 3)]), .frz [5], .asg (.sub (.a 0 fl__goals) (.var 3)) (.lst [(.tup [(.lit (.str [99, 101, 108, 108])), (.idx (.var 3) (.lit (.int 0)))]), (.tup [(.lit (.str [99, 101, 108, 108])), (.idx (.var 3) (.lit (.int 1)))]), (.tup [(.lit (.str [112, 97, 105, 114])), (.var 5)])])],
  .asg (.att 0 fl_having) (.dnew),
  .for_ (.nm 4) (.seq (.att (.var 0) fl_goals)) [.asg (.sub (.a 0 fl_having) (.var 4)) (.comp (.var 3) (.nm 3) (.seq (.att (.var 0) fl_places)) [(.cmp .in_ (.var 4) (.idx (.att (.var 0) fl__goals) (.var 3)))] [3])]]
def i_Laying_init : FnI := ⟨2, 7, [0], b_Laying_init⟩
def x8 : FnX := ⟨⟨("Laying", some "__init__"), "__init__", "Laying.__init__", defArgs (inClass (top 17) 0), ["self", "board"], ["self", "board", "most", "domino", "goal", "pair", "cell"], defScope (inClass (top 17) 0), defBody (inClass (top 17) 0), i_Laying_init⟩, defArgs (inClass (top 17) 0)⟩
/-- Laying.going(self, left, domino): 0 self 1 left 2 domino 3 own 4 other 5 goal -/
def b_Laying_going : List S := [
  .asg (.nm 3) (.idx (.att (.var 0) fl__goals) (.var 2)),
  .frz [3],
  .ret (.comp (.var 4) (.nm 4) (.seq (.var 1)) [(.not (.bi .any [(.comp (.cmp .in_ (.var 5) (.var 3)) (.nm 5) (.seq (.idx (.att (.var 0) fl__goals) (.var 4))) [] [5])]))] [4])]
def i_Laying_going : FnI := ⟨3, 6, [], b_Laying_going⟩
def x9 : FnX := ⟨⟨("Laying", some "going"), "going", "Laying.going", defArgs (inClass (top 17) 1), ["self", "left", "domino"], ["self", "left", "domino", "own", "other", "goal"], defScope (inClass (top 17) 1), defBody (inClass (top 17) 1), i_Laying_going⟩, defArgs (inClass (top 17) 1)⟩
/-- Laying.still(self, goals, domino): 0 self 1 goals 2 domino 3 own 4 goal -/
def b_Laying_still : List S := [
  .asg (.nm 3) (.idx (.att (.var 0) fl__goals) (.var 2)),
  .frz [3],
  .ret (.comp (.var 4) (.nm 4) (.seq (.var 1)) [(.cmp .nin (.var 4) (.var 3))] [4])]
def i_Laying_still : FnI := ⟨3, 5, [], b_Laying_still⟩
def x10 : FnX := ⟨⟨("Laying", some "still"), "still", "Laying.still", defArgs (inClass (top 17) 2), ["self", "goals", "domino"], ["self", "goals", "domino", "own", "goal"], defScope (inClass (top 17) 2), defBody (inClass (top 17) 2), i_Laying_still⟩, defArgs (inClass (top 17) 2)⟩
/-- Laying.scarce(self, left, goals): 0 self 1 left 2 goals 3 best 4 goal 5 rows 6 domino -/
def b_Laying_scarce : List S := [
  .asg (.nm 3) (.lit (.non)),
  .for_ (.nm 4) (.seq (.var 2)) [.asg (.nm 5) (.comp (.var 6) (.nm 6) (.seq (.idx (.att (.var 0) fl_having) (.var 4))) [(.cmp .in_ (.var 6) (.var 1))] [6]), .frz [5], .if_ (.or (.cmp .is_ (.var 3) (.lit (.non))) (.cmp .lt (.bi .len [(.var 5)]) (.bi .len [(.idx (.var 3) (.lit (.int 1)))]))) [.asg (.nm 3) (.tup [(.var 4), (.var 5)])] []],
  .retv 3]
def i_Laying_scarce : FnI := ⟨3, 7, [], b_Laying_scarce⟩
def x11 : FnX := ⟨⟨("Laying", some "scarce"), "scarce", "Laying.scarce", defArgs (inClass (top 17) 3), ["self", "left", "goals"], ["self", "left", "goals", "best", "goal", "rows", "domino"], defScope (inClass (top 17) 3), defBody (inClass (top 17) 3), i_Laying_scarce⟩, defArgs (inClass (top 17) 3)⟩
/-- Laying.has_any(self, left, goals): 0 self 1 left 2 goals -/
def b_Laying_has_any : List S := [
  .ex (.call n__wall [(.lit (.int 0))])]
def i_Laying_has_any : FnI := ⟨3, 3, [], b_Laying_has_any⟩
def x12 : FnX := ⟨⟨("Laying", some "has_any"), "has_any", "Laying.has_any", defArgs (inClass (top 17) 4), ["self", "left", "goals"], ["self", "left", "goals"], defScope (inClass (top 17) 4), defBody (inClass (top 17) 4), i_Laying_has_any⟩, defArgs (inClass (top 17) 4)⟩
/-- Laying.all_of(self, left, goals): 0 self 1 left 2 goals 3 found 4 domino 5 _goal 6 rows 7 rests 8 rest -/
def b_Laying_all_of : List S := [
  .if_ (.cmp .eq (.bi .len [(.var 2)]) (.lit (.int 0))) [.ret (.lst [(.lst [])])] [],
  .asg (.tu [(.nm 5), (.nm 6)]) (.meth c_Laying n_Laying_scarce (.var 0) [(.var 1), (.var 2)]),
  .asg (.nm 3) (.lst []),
  .for_ (.nm 4) (.seq (.var 6)) [.asg (.nm 7) (.meth c_Laying n_Laying_all_of (.var 0) [(.meth c_Laying n_Laying_going (.var 0) [(.var 1), (.var 4)]), (.meth c_Laying n_Laying_still (.var 0) [(.var 2), (.var 4)])]), .frz [7], .ext (.v 3) (.comp (.bin .add (.lst [(.var 4)]) (.var 8)) (.nm 8) (.seq (.var 7)) [] [8])],
  .retv 3]
def i_Laying_all_of : FnI := ⟨3, 9, [], b_Laying_all_of⟩
def x13 : FnX := ⟨⟨("Laying", some "all_of"), "all_of", "Laying.all_of", defArgs (inClass (top 17) 5), ["self", "left", "goals"], ["self", "left", "goals", "found", "domino", "_goal", "rows", "rests", "rest"], defScope (inClass (top 17) 5), defBody (inClass (top 17) 5), i_Laying_all_of⟩, defArgs (inClass (top 17) 5)⟩
/-- Laying.paper(self, left, goals): 0 self 1 left 2 goals 3 papers 4 goal 5 rows 6 domino -/
def b_Laying_paper : List S := [
  .asg (.tu [(.nm 4), (.nm 5)]) (.meth c_Laying n_Laying_scarce (.var 0) [(.var 1), (.var 2)]),
  .asg (.nm 3) (.comp (.meth c_Laying n_Laying_paper (.var 0) [(.meth c_Laying n_Laying_going (.var 0) [(.var 1), (.var 6)]), (.meth c_Laying n_Laying_still (.var 0) [(.var 2), (.var 6)])]) (.nm 6) (.seq (.var 5)) [] [6]),
  .frz [3],
  .ret (.bin .add (.var 4) (.tup [(.bi .tuple [(.var 3)])]))]
def i_Laying_paper : FnI := ⟨3, 7, [], b_Laying_paper⟩
def x14 : FnX := ⟨⟨("Laying", some "paper"), "paper", "Laying.paper", defArgs (inClass (top 17) 6), ["self", "left", "goals"], ["self", "left", "goals", "papers", "goal", "rows", "domino"], defScope (inClass (top 17) 6), defBody (inClass (top 17) 6), i_Laying_paper⟩, defArgs (inClass (top 17) 6)⟩
/-- _layings(board): 0 board 1 laying 2 way -/
def b__layings : List S := [
  .asg (.nm 1) (.mk c_Laying n_Laying_init [(.var 0)]),
  .frz [1],
  .ret (.bi .sorted [(.comp (.bi .tuple [(.bi .sorted [(.var 2)])]) (.nm 2) (.seq (.meth c_Laying n_Laying_all_of (.var 1) [(.att (.var 1) fl_places), (.att (.var 1) fl_goals)])) [] [2])])]
def i__layings : FnI := ⟨1, 3, [], b__layings⟩
def x15 : FnX := ⟨⟨("_layings", none), "_layings", "_layings", defArgs (top 18), ["board"], ["board", "laying", "way"], defScope (top 18), defBody (top 18), i__layings⟩, defArgs (top 18)⟩
/-- _none(board): 0 board 1 laying -/
def b__none : List S := [
  .asg (.nm 1) (.mk c_Laying n_Laying_init [(.var 0)]),
  .frz [1],
  .ret (.tup [(.lit (.str [110, 111, 110, 101])), (.meth c_Laying n_Laying_paper (.var 1) [(.att (.var 1) fl_places), (.att (.var 1) fl_goals)])])]
def i__none : FnI := ⟨1, 2, [], b__none⟩
def x16 : FnX := ⟨⟨("_none", none), "_none", "_none", defArgs (top 19), ["board"], ["board", "laying"], defScope (top 19), defBody (top 19), i__none⟩, defArgs (top 19)⟩
/-- first_laying(board): 0 board 1 found -/
def b_first_laying : List S := [
  .ex (.call n_check_board [(.var 0)]),
  .asg (.nm 1) (.call n__layings [(.var 0)]),
  .frz [1],
  .ret (.ite (.cmp .gt (.bi .len [(.var 1)]) (.lit (.int 0))) (.tup [(.lit (.str [108, 97, 121, 105, 110, 103])), (.idx (.var 1) (.lit (.int 0)))]) (.call n__none [(.var 0)]))]
def i_first_laying : FnI := ⟨1, 2, [], b_first_laying⟩
def x17 : FnX := ⟨⟨("first_laying", none), "first_laying", "first_laying", defArgs (top 20), ["board"], ["board", "found"], defScope (top 20), defBody (top 20), i_first_laying⟩, defArgs (top 20)⟩
/-- _path(laying, left, goals, paper): 0 laying 1 left 2 goals 3 paper 4 rows 5 domino 6 inner 7 path 8 one -/
def b__path : List S := [
  .if_ (.or (.not (.bi (.isi .tuple) [(.var 3)])) (.or (.cmp .ne (.bi .len [(.var 3)]) (.lit (.int 3))) (.or (.cmp .nin (.slc (.var 3) none (some (.lit (.int 2)))) (.var 2)) (.not (.bi (.isi .tuple) [(.idx (.var 3) (.lit (.int 2)))]))))) [.ret (.tup [])] [],
  .if_ (.bi .any [(.comp (.bi (.isi .bool) [(.var 8)]) (.nm 8) (.seq (.idx (.var 3) (.lit (.int 1)))) [] [8])]) [.ret (.tup [])] [],
  .asg (.nm 4) (.comp (.var 5) (.nm 5) (.seq (.idx (.att (.var 0) fl_having) (.slc (.var 3) none (some (.lit (.int 2)))))) [(.cmp .in_ (.var 5) (.var 1))] [5]),
  .frz [4],
  .if_ (.cmp .ne (.bi .len [(.idx (.var 3) (.lit (.int 2)))]) (.bi .len [(.var 4)])) [.ret (.tup [])] [],
  .for_ (.tu [(.nm 5), (.nm 6)]) (.zip (.var 4) (.idx (.var 3) (.lit (.int 2)))) [.asg (.nm 7) (.call n__path [(.var 0), (.meth c_Laying n_Laying_going (.var 0) [(.var 1), (.var 5)]), (.meth c_Laying n_Laying_still (.var 0) [(.var 2), (.var 5)]), (.var 6)]), .frz [7], .if_ (.cmp .isn (.var 7) (.lit (.non))) [.ret (.bin .add (.tup [(.var 5)]) (.var 7))] []],
  .ret (.lit (.non))]
def i__path : FnI := ⟨4, 9, [], b__path⟩
def x18 : FnX := ⟨⟨("_path", none), "_path", "_path", defArgs (top 21), ["laying", "left", "goals", "paper"], ["laying", "left", "goals", "paper", "rows", "domino", "inner", "path", "one"], defScope (top 21), defBody (top 21), i__path⟩, defArgs (top 21)⟩
/-- paper_fault(board, paper): 0 board 1 paper 2 laying -/
def b_paper_fault : List S := [
  .ex (.call n_check_board [(.var 0)]),
  .asg (.nm 2) (.mk c_Laying n_Laying_init [(.var 0)]),
  .frz [2],
  .ret (.call n__path [(.var 2), (.att (.var 2) fl_places), (.att (.var 2) fl_goals), (.var 1)])]
def i_paper_fault : FnI := ⟨2, 3, [], b_paper_fault⟩
def x19 : FnX := ⟨⟨("paper_fault", none), "paper_fault", "paper_fault", defArgs (top 22), ["board", "paper"], ["board", "paper", "laying"], defScope (top 22), defBody (top 22), i_paper_fault⟩, defArgs (top 22)⟩
/-- _law_draws(script, many): 0 script 1 many 2 draws 3 seed 4 cell 5 k 6 number -/
def b__law_draws : List S := [
  .asg (.nm 2) (.lst []),
  .asg (.nm 3) (.lit (.int 7)),
  .for_ (.nm 4) (.seq (.slc (.var 0) none (some (.lit (.int 63))))) [.asg (.nm 6) (.bi .abs [(.var 4)]), .asg (.nm 3) (.bin .mod (.bi .int [(.bin .add (.bin .add (.bin .mul (.var 3) (.lit (.int 48271))) (.var 6)) (.lit (.int 11)))]) (.lit (.int 2147483647))), .if_ (.cmp .ge (.var 6) (.bin .pow (.lit (.int 10)) (.lit (.int 18)))) [.for_ (.nm 5) (.rng [(.lit (.int 60))]) [.if_ (.cmp .gt (.var 6) (.lit (.int 0))) [.app (.v 2) (.bin .mod (.bi .int [(.var 6)]) (.lit (.int 1009))), .asg (.nm 6) (.bin .fdiv (.var 6) (.lit (.int 1009)))] []]] [.app (.v 2) (.bin .mod (.bin .fdiv (.bi .int [(.bin .add (.bin .mul (.var 3) (.lit (.int 16807))) (.lit (.int 5)))]) (.lit (.int 3))) (.lit (.int 65521)))]],
  .for_ (.nm 5) (.rng [(.var 1)]) [.if_ (.cmp .lt (.bi .len [(.var 2)]) (.var 1)) [.asg (.nm 3) (.bin .mod (.bi .int [(.bin .add (.bin .add (.bin .mul (.var 3) (.lit (.int 69621))) (.var 5)) (.lit (.int 1)))]) (.lit (.int 2147483647))), .app (.v 2) (.bin .mod (.bin .fdiv (.bi .int [(.var 3)]) (.lit (.int 7))) (.lit (.int 65521)))] []],
  .ret (.slc (.var 2) none (some (.var 1)))]
def i__law_draws : FnI := ⟨2, 7, [], b__law_draws⟩
def x20 : FnX := ⟨⟨("_law_draws", none), "_law_draws", "_law_draws", defArgs (top 24), ["script", "many"], ["script", "many", "draws", "seed", "cell", "k", "number"], defScope (top 24), defBody (top 24), i__law_draws⟩, defArgs (top 24)⟩
/-- _law_places(most): 0 most 1 found 2 r 3 c -/
def b__law_places : List S := [
  .asg (.nm 1) (.lst []),
  .frz [1],
  .for_ (.nm 2) (.rng [(.bin .add (.var 0) (.lit (.int 1)))]) [.for_ (.nm 3) (.rng [(.bin .add (.var 0) (.lit (.int 2)))]) [.asg (.nm 1) (.bin .add (.bin .add (.var 1) (.ite (.cmp .lt (.var 3) (.bin .add (.var 0) (.lit (.int 1)))) (.lst [(.tup [(.tup [(.var 2), (.var 3)]), (.tup [(.var 2), (.bin .add (.var 3) (.lit (.int 1)))])])]) (.lst []))) (.ite (.cmp .lt (.var 2) (.var 0)) (.lst [(.tup [(.tup [(.var 2), (.var 3)]), (.tup [(.bin .add (.var 2) (.lit (.int 1))), (.var 3)])])]) (.lst []))), .frz [1]]],
  .ret (.bi .sorted [(.var 1)])]
def i__law_places : FnI := ⟨1, 4, [], b__law_places⟩
def x21 : FnX := ⟨⟨("_law_places", none), "_law_places", "_law_places", defArgs (top 25), ["most"], ["most", "found", "r", "c"], defScope (top 25), defBody (top 25), i__law_places⟩, defArgs (top 25)⟩
/-- _law_pairs(most): 0 most 1 found 2 a 3 b -/
def b__law_pairs : List S := [
  .asg (.nm 1) (.lst []),
  .frz [1],
  .for_ (.nm 2) (.rng [(.bin .add (.var 0) (.lit (.int 1)))]) [.asg (.nm 1) (.bin .add (.var 1) (.comp (.tup [(.var 2), (.var 3)]) (.nm 3) (.rng [(.var 2), (.bin .add (.var 0) (.lit (.int 1)))]) [] [3])), .frz [1]],
  .retv 1]
def i__law_pairs : FnI := ⟨1, 4, [], b__law_pairs⟩
def x22 : FnX := ⟨⟨("_law_pairs", none), "_law_pairs", "_law_pairs", defArgs (top 26), ["most"], ["most", "found", "a", "b"], defScope (top 26), defBody (top 26), i__law_pairs⟩, defArgs (top 26)⟩
/-- _law_pair(board, domino): 0 board 1 domino 2 r 3 c -/
def b__law_pair : List S := [
  .ret (.bi .tuple [(.bi .sorted [(.comp (.idx (.idx (.var 0) (.var 2)) (.var 3)) (.tu [(.nm 2), (.nm 3)]) (.seq (.var 1)) [] [2, 3])])])]
def i__law_pair : FnI := ⟨2, 4, [], b__law_pair⟩
def x23 : FnX := ⟨⟨("_law_pair", none), "_law_pair", "_law_pair", defArgs (top 27), ["board", "domino"], ["board", "domino", "r", "c"], defScope (top 27), defBody (top 27), i__law_pair⟩, defArgs (top 27)⟩
/-- _law_tilings(most): 0 most 1 cells 2 r 3 turn 4 ways 5 done 6 longer 7 way 8 used 9 first 10 other 11 c 12 domino 13 cell -/
def b__law_tilings : List S := [
  .asg (.nm 1) (.lst []),
  .frz [1],
  .for_ (.nm 2) (.rng [(.bin .add (.var 0) (.lit (.int 1)))]) [.asg (.nm 1) (.bin .add (.var 1) (.comp (.tup [(.var 2), (.var 11)]) (.nm 11) (.rng [(.bin .add (.var 0) (.lit (.int 2)))]) [] [11])), .frz [1]],
  .par [4, 5] [(.lst [(.tup [])]), (.lst [])],
  .frz [4, 5],
  .for_ (.nm 3) (.rng [(.bin .fdiv (.bi .len [(.var 1)]) (.lit (.int 2)))]) [.asg (.nm 6) (.lst []), .for_ (.nm 7) (.seq (.var 4)) [.asg (.nm 8) (.bin .add (.comp (.idx (.var 12) (.lit (.int 0))) (.nm 12) (.seq (.var 7)) [] [12]) (.comp (.idx (.var 12) (.lit (.int 1))) (.nm 12) (.seq (.var 7)) [] [12])), .frz [8], .asg (.nm 9) (.idx (.comp (.var 13) (.nm 13) (.seq (.var 1)) [(.cmp .nin (.var 13) (.var 8))] [13]) (.lit (.int 0))), .frz [9], .for_ (.nm 10) (.seq (.lst [(.tup [(.idx (.var 9) (.lit (.int 0))), (.bin .add (.idx (.var 9) (.lit (.int 1))) (.lit (.int 1)))]), (.tup [(.bin .add (.idx (.var 9) (.lit (.int 0))) (.lit (.int 1))), (.idx (.var 9) (.lit (.int 1)))])])) [.if_ (.and (.cmp .in_ (.var 10) (.var 1)) (.cmp .nin (.var 10) (.var 8))) [.app (.v 6) (.bin .add (.var 7) (.tup [(.tup [(.var 9), (.var 10)])]))] []]], .frz [6], .asg (.nm 4) (.var 6), .frz [4]],
  .ret (.comp (.bi .tuple [(.bi .sorted [(.var 7)])]) (.nm 7) (.seq (.var 4)) [] [7])]
def i__law_tilings : FnI := ⟨1, 14, [], b__law_tilings⟩
def x24 : FnX := ⟨⟨("_law_tilings", none), "_law_tilings", "_law_tilings", defArgs (top 28), ["most"], ["most", "cells", "r", "turn", "ways", "done", "longer", "way", "used", "first", "other", "c", "domino", "cell"], defScope (top 28), defBody (top 28), i__law_tilings⟩, defArgs (top 28)⟩
/-- _law_board(draws, most): 0 draws 1 most 2 way 3 k 4 kind 5 tilings 6 pairs 7 left 8 found 9 pair 10 turn 11 cell 12 other 13 r 14 c -/
def b__law_board : List S := [
  .par [5, 6] [(.call n__law_tilings [(.var 1)]), (.call n__law_pairs [(.var 1)])],
  .frz [5, 6],
  .asg (.nm 2) (.idx (.var 5) (.bin .mod (.bi .int [(.idx (.var 0) (.lit (.int 0)))]) (.bi .len [(.var 5)]))),
  .frz [2],
  .par [7, 8] [(.bi .list [(.var 6)]), (.dnew)],
  .frz [7],
  .for_ (.nm 3) (.rng [(.bi .len [(.var 2)])]) [.asg (.nm 9) (.idx (.var 7) (.bin .mod (.bin .fdiv (.bi .int [(.idx (.var 0) (.bin .add (.lit (.int 1)) (.bin .mod (.var 3) (.lit (.int 10)))))]) (.bin .add (.lit (.int 1)) (.bin .fdiv (.var 3) (.lit (.int 10))))) (.bi .len [(.var 7)]))), .frz [9], .asg (.nm 7) (.comp (.var 12) (.nm 12) (.seq (.var 7)) [(.cmp .ne (.var 12) (.var 9))] [12]), .frz [7], .asg (.nm 10) (.bin .mod (.bin .fdiv (.bi .int [(.idx (.var 0) (.lit (.int 11)))]) (.bin .add (.var 3) (.lit (.int 1)))) (.lit (.int 2))), .parz [(.sub (.v 8) (.idx (.idx (.var 2) (.var 3)) (.lit (.int 0)))), (.sub (.v 8) (.idx (.idx (.var 2) (.var 3)) (.lit (.int 1))))] [(.idx (.var 9) (.var 10)), (.idx (.var 9) (.bin .sub (.lit (.int 1)) (.var 10)))]],
  .asg (.nm 4) (.bin .mod (.bi .int [(.idx (.var 0) (.lit (.int 12)))]) (.lit (.int 4))),
  .if_ (.cmp .eq (.var 4) (.lit (.int 0))) [.asg (.nm 11) (.idx (.bi .sorted [(.var 8)]) (.bin .mod (.bi .int [(.idx (.var 0) (.lit (.int 13)))]) (.bi .len [(.var 8)]))), .frz [11], .asg (.sub (.v 8) (.var 11)) (.bin .mod (.bi .int [(.idx (.var 0) (.lit (.int 14)))]) (.bin .add (.var 1) (.lit (.int 1))))] [],
  .if_ (.cmp .eq (.var 4) (.lit (.int 1))) [.for_ (.nm 3) (.rng [(.bi .len [(.var 8)])]) [.asg (.sub (.v 8) (.idx (.bi .sorted [(.var 8)]) (.var 3))) (.bin .mod (.bin .fdiv (.bi .int [(.idx (.var 0) (.bin .add (.lit (.int 1)) (.bin .mod (.var 3) (.lit (.int 14)))))]) (.bin .add (.lit (.int 2)) (.bin .fdiv (.var 3) (.lit (.int 14))))) (.bin .add (.var 1) (.lit (.int 1))))]] [],
  .ret (.bi .tuple [(.comp (.bi .tuple [(.comp (.idx (.var 8) (.tup [(.var 13), (.var 14)])) (.nm 14) (.rng [(.bin .add (.var 1) (.lit (.int 2)))]) [] [14])]) (.nm 13) (.rng [(.bin .add (.var 1) (.lit (.int 1)))]) [] [13])])]
def i__law_board : FnI := ⟨2, 15, [], b__law_board⟩
def x25 : FnX := ⟨⟨("_law_board", none), "_law_board", "_law_board", defArgs (top 29), ["draws", "most"], ["draws", "most", "way", "k", "kind", "tilings", "pairs", "left", "found", "pair", "turn", "cell", "other", "r", "c"], defScope (top 29), defBody (top 29), i__law_board⟩, defArgs (top 29)⟩
/-- _law_all(board): 0 board 1 most 2 way 3 domino -/
def b__law_all : List S := [
  .asg (.nm 1) (.bin .sub (.bi .len [(.var 0)]) (.lit (.int 1))),
  .ret (.bi .sorted [(.comp (.var 2) (.nm 2) (.seq (.call n__law_tilings [(.var 1)])) [(.cmp .eq (.bi .sorted [(.comp (.call n__law_pair [(.var 0), (.var 3)]) (.nm 3) (.seq (.var 2)) [] [3])]) (.call n__law_pairs [(.var 1)]))] [2])])]
def i__law_all : FnI := ⟨1, 4, [], b__law_all⟩
def x26 : FnX := ⟨⟨("_law_all", none), "_law_all", "_law_all", defArgs (top 30), ["board"], ["board", "most", "way", "domino"], defScope (top 30), defBody (top 30), i__law_all⟩, defArgs (top 30)⟩
/-- _law_goals(board, domino): 0 board 1 domino -/
def b__law_goals : List S := [
  .ret (.lst [(.tup [(.lit (.str [99, 101, 108, 108])), (.idx (.var 1) (.lit (.int 0)))]), (.tup [(.lit (.str [99, 101, 108, 108])), (.idx (.var 1) (.lit (.int 1)))]), (.tup [(.lit (.str [112, 97, 105, 114])), (.call n__law_pair [(.var 0), (.var 1)])])])]
def i__law_goals : FnI := ⟨2, 2, [], b__law_goals⟩
def x27 : FnX := ⟨⟨("_law_goals", none), "_law_goals", "_law_goals", defArgs (top 31), ["board", "domino"], ["board", "domino"], defScope (top 31), defBody (top 31), i__law_goals⟩, defArgs (top 31)⟩
/-- _law_path(board, left, done, paper): 0 board 1 left 2 done 3 paper 4 most 5 rows 6 k 7 own 8 later 9 path 10 domino 11 other 12 one 13 goal -/
def b__law_path : List S := [
  .asg (.nm 4) (.bin .sub (.bi .len [(.var 0)]) (.lit (.int 1))),
  .if_ (.or (.not (.bi (.isi .tuple) [(.var 3)])) (.or (.cmp .ne (.bi .len [(.var 3)]) (.lit (.int 3))) (.or (.not (.bi (.isi .tuple) [(.idx (.var 3) (.lit (.int 1)))])) (.or (.cmp .ne (.bi .len [(.idx (.var 3) (.lit (.int 1)))]) (.lit (.int 2))) (.not (.bi (.isi .tuple) [(.idx (.var 3) (.lit (.int 2)))])))))) [.ret (.tup [])] [],
  .if_ (.or (.not (.bi .all [(.comp (.and (.bi (.isi .int) [(.var 12)]) (.and (.not (.bi (.isi .bool) [(.var 12)])) (.cmp .ge (.var 12) (.lit (.int 0))))) (.nm 12) (.seq (.idx (.var 3) (.lit (.int 1)))) [] [12])])) (.cmp .in_ (.slc (.var 3) none (some (.lit (.int 2)))) (.var 2))) [.ret (.tup [])] [],
  .if_ (.or (.and (.cmp .eq (.idx (.var 3) (.lit (.int 0))) (.lit (.str [99, 101, 108, 108]))) (.or (.cmp .gt (.idx (.idx (.var 3) (.lit (.int 1))) (.lit (.int 0))) (.var 4)) (.cmp .gt (.idx (.idx (.var 3) (.lit (.int 1))) (.lit (.int 1))) (.bin .add (.var 4) (.lit (.int 1)))))) (.or (.and (.cmp .eq (.idx (.var 3) (.lit (.int 0))) (.lit (.str [112, 97, 105, 114]))) (.cmp .nin (.idx (.var 3) (.lit (.int 1))) (.call n__law_pairs [(.var 4)]))) (.cmp .nin (.idx (.var 3) (.lit (.int 0))) (.tup [(.lit (.str [99, 101, 108, 108])), (.lit (.str [112, 97, 105, 114]))])))) [.ret (.tup [])] [],
  .asg (.nm 5) (.comp (.var 10) (.nm 10) (.seq (.var 1)) [(.cmp .in_ (.slc (.var 3) none (some (.lit (.int 2)))) (.call n__law_goals [(.var 0), (.var 10)]))] [10]),
  .frz [5],
  .if_ (.cmp .ne (.bi .len [(.var 5)]) (.bi .len [(.idx (.var 3) (.lit (.int 2)))])) [.ret (.tup [])] [],
  .for_ (.nm 6) (.rng [(.bi .len [(.var 5)])]) [.asg (.nm 7) (.call n__law_goals [(.var 0), (.idx (.var 5) (.var 6))]), .frz [7], .asg (.nm 8) (.comp (.var 11) (.nm 11) (.seq (.var 1)) [(.not (.bi .any [(.comp (.cmp .in_ (.var 13) (.var 7)) (.nm 13) (.seq (.call n__law_goals [(.var 0), (.var 11)])) [] [13])]))] [11]), .frz [8], .asg (.nm 9) (.call n__law_path [(.var 0), (.var 8), (.bin .add (.var 2) (.var 7)), (.idx (.idx (.var 3) (.lit (.int 2))) (.var 6))]), .frz [9], .if_ (.cmp .isn (.var 9) (.lit (.non))) [.ret (.bin .add (.tup [(.idx (.var 5) (.var 6))]) (.var 9))] []],
  .ret (.lit (.non))]
def i__law_path : FnI := ⟨4, 14, [], b__law_path⟩
def x28 : FnX := ⟨⟨("_law_path", none), "_law_path", "_law_path", defArgs (top 32), ["board", "left", "done", "paper"], ["board", "left", "done", "paper", "most", "rows", "k", "own", "later", "path", "domino", "other", "one", "goal"], defScope (top 32), defBody (top 32), i__law_path⟩, defArgs (top 32)⟩
/-- _law_bent(draws, board, paper): 0 draws 1 board 2 paper 3 most 4 found 5 r 6 inner 7 at -/
def b__law_bent : List S := [
  .asg (.nm 3) (.bin .sub (.bi .len [(.var 1)]) (.lit (.int 1))),
  .asg (.nm 4) (.lst [(.lit (.non)), (.tup []), (.lit (.int 7)), (.tup [(.lit (.str [99, 101, 108, 108])), (.tup [(.lit (.int 0)), (.lit (.int 0))]), (.tup [])]), (.tup [(.lit (.str [112, 97, 105, 114])), (.tup [(.lit (.int 0)), (.lit (.int 0))]), (.tup [])]), (.tup [(.lit (.str [67, 101, 108, 108])), (.tup [(.lit (.int 0)), (.lit (.int 0))]), (.tup [])]), (.tup [(.lit (.str [99, 101, 108, 108])), (.tup [(.lit (.int 9)), (.lit (.int 0))]), (.tup [])]), (.tup [(.lit (.str [112, 97, 105, 114])), (.tup [(.lit (.int 1)), (.lit (.int 0))]), (.tup [])]), (.tup [(.lit (.str [99, 101, 108, 108])), (.tup [(.lit (.int 0)), (.lit (.bl true))]), (.tup [])]), (.tup [(.lit (.str [99, 101, 108, 108])), (.lit (.non)), (.tup [])])]),
  .for_ (.nm 5) (.rng [(.bin .add (.var 3) (.lit (.int 1)))]) [.app (.v 4) (.tup [(.lit (.str [112, 97, 105, 114])), (.tup [(.var 5), (.var 3)]), (.tup [])])],
  .if_ (.cmp .isn (.var 2) (.lit (.non))) [.asg (.nm 4) (.bin .add (.var 4) (.lst [(.var 2), (.bi .list [(.var 2)]), (.slc (.var 2) none (some (.lit (.int 2)))), (.bin .add (.var 2) (.tup [(.lit (.int 0))])), (.tup [(.idx (.var 2) (.lit (.int 0))), (.rev (.idx (.var 2) (.lit (.int 1)))), (.idx (.var 2) (.lit (.int 2)))]), (.tup [(.ite (.cmp .eq (.idx (.var 2) (.lit (.int 0))) (.lit (.str [99, 101, 108, 108]))) (.lit (.str [112, 97, 105, 114])) (.lit (.str [99, 101, 108, 108]))), (.idx (.var 2) (.lit (.int 1))), (.idx (.var 2) (.lit (.int 2)))])])), .asg (.nm 6) (.idx (.var 2) (.lit (.int 2))), .frz [6], .if_ (.cmp .gt (.bi .len [(.var 6)]) (.lit (.int 0))) [.asg (.nm 7) (.bin .mod (.bi .int [(.idx (.var 0) (.lit (.int 0)))]) (.bi .len [(.var 6)])), .asg (.nm 4) (.bin .add (.var 4) (.lst [(.bin .add (.slc (.var 2) none (some (.lit (.int 2)))) (.tup [(.slc (.var 6) (some (.lit (.int 1))) none)])), (.bin .add (.slc (.var 2) none (some (.lit (.int 2)))) (.tup [(.rev (.var 6))])), (.bin .add (.slc (.var 2) none (some (.lit (.int 2)))) (.tup [(.bin .add (.var 6) (.slc (.var 6) (some (.neg (.lit (.int 1)))) none))])), (.bin .add (.slc (.var 2) none (some (.lit (.int 2)))) (.tup [(.bin .add (.bin .add (.slc (.var 6) none (some (.var 7))) (.tup [(.lit (.non))])) (.slc (.var 6) (some (.bin .add (.var 7) (.lit (.int 1)))) none))])), (.idx (.var 6) (.var 7))])), .asg (.nm 4) (.bin .add (.var 4) (.lst [(.bin .add (.slc (.var 2) none (some (.lit (.int 2)))) (.tup [(.bin .add (.bin .add (.slc (.var 6) none (some (.var 7))) (.tup [(.var 2)])) (.slc (.var 6) (some (.bin .add (.var 7) (.lit (.int 1)))) none))])), (.bin .add (.slc (.var 2) none (some (.lit (.int 2)))) (.tup [(.bin .add (.bin .add (.slc (.var 6) none (some (.var 7))) (.tup [(.tup [(.lit (.str [99, 101, 108, 108])), (.tup [(.lit (.int 0)), (.lit (.int 0))]), (.tup [])])])) (.slc (.var 6) (some (.bin .add (.var 7) (.lit (.int 1)))) none))]))]))] []] [],
  .retv 4]
def i__law_bent : FnI := ⟨3, 8, [], b__law_bent⟩
def x29 : FnX := ⟨⟨("_law_bent", none), "_law_bent", "_law_bent", defArgs (top 33), ["draws", "board", "paper"], ["draws", "board", "paper", "most", "found", "r", "inner", "at"], defScope (top 33), defBody (top 33), i__law_bent⟩, defArgs (top 33)⟩
/-- law(script): 0 script 1 draws 2 turn 3 most 4 board 5 paper 6 good 7 told 8 left 9 due 10 r 11 c -/
def b_law : List S := [
  .asg (.nm 1) (.call n__law_draws [(.var 0), (.lit (.int 60))]),
  .frz [1],
  .for_ (.nm 2) (.rng [(.lit (.int 5))]) [.asg (.nm 3) (.idx (.lst [(.lit (.int 1)), (.lit (.int 2)), (.lit (.int 3)), (.lit (.int 2)), (.lit (.int 3))]) (.var 2)), .frz [3], .asg (.nm 4) (.call n__law_board [(.slc (.var 1) (some (.bin .mul (.lit (.int 8)) (.var 2))) (some (.bin .add (.bin .mul (.lit (.int 8)) (.var 2)) (.lit (.int 20))))), (.var 3)]), .frz [4], .if_ (.cmp .gt (.var 2) (.lit (.int 2))) [.asg (.nm 4) (.bi .tuple [(.comp (.bi .tuple [(.comp (.bin .mod (.bin .fdiv (.bi .int [(.idx (.var 1) (.bin .mod (.bin .add (.bin .add (.bin .mul (.var 10) (.lit (.int 7))) (.var 11)) (.var 2)) (.lit (.int 60))))]) (.bin .add (.lit (.int 1)) (.var 10))) (.bin .add (.var 3) (.lit (.int 1)))) (.nm 11) (.rng [(.bin .add (.var 3) (.lit (.int 2)))]) [] [11])]) (.nm 10) (.rng [(.bin .add (.var 3) (.lit (.int 1)))]) [] [10])])] [], .par [6, 7, 8] [(.call n__law_all [(.var 4)]), (.call n_first_laying [(.var 4)]), (.call n__law_places [(.var 3)])], .frz [6, 7, 8], .if_ (.cmp .ne (.cmp .eq (.idx (.var 7) (.lit (.int 0))) (.lit (.str [110, 111, 110, 101]))) (.cmp .eq (.bi .len [(.var 6)]) (.lit (.int 0)))) [.ret (.lit (.bl false))] [], .if_ (.and (.cmp .eq (.bi .len [(.var 6)]) (.lit (.int 0))) (.or (.cmp .isn (.call n__law_path [(.var 4), (.var 8), (.lst []), (.idx (.var 7) (.lit (.int 1)))]) (.lit (.non))) (.cmp .isn (.call n_paper_fault [(.var 4), (.idx (.var 7) (.lit (.int 1)))]) (.lit (.non))))) [.ret (.lit (.bl false))] [], .for_ (.nm 5) (.seq (.call n__law_bent [(.slc (.var 1) (some (.bin .add (.lit (.int 50)) (.var 2))) none), (.var 4), (.ite (.cmp .eq (.bi .len [(.var 6)]) (.lit (.int 0))) (.idx (.var 7) (.lit (.int 1))) (.lit (.non)))])) [.asg (.nm 9) (.call n__law_path [(.var 4), (.var 8), (.lst []), (.var 5)]), .frz [9], .if_ (.or (.cmp .ne (.call n_paper_fault [(.var 4), (.var 5)]) (.var 9)) (.and (.cmp .is_ (.var 9) (.lit (.non))) (.cmp .gt (.bi .len [(.var 6)]) (.lit (.int 0))))) [.ret (.lit (.bl false))] []]],
  .ret (.and (.cmp .is_ (.call n_paper_fault [(.tup [(.tup [(.lit (.int 0)), (.lit (.int 0)), (.lit (.int 0))]), (.tup [(.lit (.int 0)), (.lit (.int 0)), (.lit (.int 0))])]), (.tup [(.lit (.str [112, 97, 105, 114])), (.tup [(.lit (.int 0)), (.lit (.int 1))]), (.tup [])])]) (.lit (.non))) (.cmp .eq (.call n_paper_fault [(.tup [(.tup [(.lit (.int 0)), (.lit (.int 0)), (.lit (.int 0))]), (.tup [(.lit (.int 0)), (.lit (.int 0)), (.lit (.int 0))])]), (.tup [(.lit (.str [112, 97, 105, 114])), (.tup [(.lit (.int 0)), (.lit (.int 0))]), (.tup [])])]) (.tup [])))]
def i_law : FnI := ⟨1, 12, [], b_law⟩
def x30 : FnX := ⟨⟨("law", none), "law", "law", defArgs (top 34), ["script"], ["script", "draws", "turn", "most", "board", "paper", "good", "told", "left", "due", "r", "c"], defScope (top 34), defBody (top 34), i_law⟩, defArgs (top 34)⟩
def xs : List FnX := [x0, x1, x2, x3, x4, x5, x6, x7, x8, x9, x10, x11, x12, x13, x14, x15, x16, x17, x18, x19, x20, x21, x22, x23, x24, x25, x26, x27, x28, x29, x30]
def p : PrS := ⟨xs.map (·.fs), ["Laying"], ["places", "goals", "_goals", "having"], ["CoverError", "BadBoard"], [("MOST_NUMBER", .int 4), ("CELL", .str [99, 101, 108, 108]), ("PAIR", .str [112, 97, 105, 114])], ["len", "list", "tuple", "sorted", "all", "any", "int", "abs", "range", "isinstance", "bool", "zip"]⟩
def prog : List FnI := [i__wall, i_is_whole, i_is_board, i_check_board, i_pairs_to, i_places_to, i_pair_of, i_cells_to, i_Laying_init, i_Laying_going, i_Laying_still, i_Laying_scarce, i_Laying_has_any, i_Laying_all_of, i_Laying_paper, i__layings, i__none, i_first_laying, i__path, i_paper_fault, i__law_draws, i__law_places, i__law_pairs, i__law_pair, i__law_tilings, i__law_board, i__law_all, i__law_goals, i__law_path, i__law_bent, i_law]
theorem prog_eq : progOf p = prog := rfl
theorem hx : xs.map (·.fs) = p.fns := rfl
theorem hp0 : fn1 p x0.fs = true := by kernel_rfl
theorem hp1 : fn1 p x1.fs = true := by kernel_rfl
theorem hp2 : fn1 p x2.fs = true := by kernel_rfl
theorem hp3 : fn1 p x3.fs = true := by kernel_rfl
theorem hp4 : fn1 p x4.fs = true := by kernel_rfl
theorem hp5 : fn1 p x5.fs = true := by kernel_rfl
theorem hp6 : fn1 p x6.fs = true := by kernel_rfl
theorem hp7 : fn1 p x7.fs = true := by kernel_rfl
theorem hp8 : fn1 p x8.fs = true := by kernel_rfl
theorem hp9 : fn1 p x9.fs = true := by kernel_rfl
theorem hp10 : fn1 p x10.fs = true := by kernel_rfl
theorem hp11 : fn1 p x11.fs = true := by kernel_rfl
theorem hp12 : fn1 p x12.fs = true := by kernel_rfl
theorem hp13 : fn1 p x13.fs = true := by kernel_rfl
theorem hp14 : fn1 p x14.fs = true := by kernel_rfl
theorem hp15 : fn1 p x15.fs = true := by kernel_rfl
theorem hp16 : fn1 p x16.fs = true := by kernel_rfl
theorem hp17 : fn1 p x17.fs = true := by kernel_rfl
theorem hp18 : fn1 p x18.fs = true := by kernel_rfl
theorem hp19 : fn1 p x19.fs = true := by kernel_rfl
theorem hp20 : fn1 p x20.fs = true := by kernel_rfl
theorem hp21 : fn1 p x21.fs = true := by kernel_rfl
theorem hp22 : fn1 p x22.fs = true := by kernel_rfl
theorem hp23 : fn1 p x23.fs = true := by kernel_rfl
theorem hp24 : fn1 p x24.fs = true := by kernel_rfl
theorem hp25 : fn1 p x25.fs = true := by kernel_rfl
theorem hp26 : fn1 p x26.fs = true := by kernel_rfl
theorem hp27 : fn1 p x27.fs = true := by kernel_rfl
theorem hp28 : fn1 p x28.fs = true := by kernel_rfl
theorem hp29 : fn1 p x29.fs = true := by kernel_rfl
theorem hp30 : fn1 p x30.fs = true := by kernel_rfl
theorem hp : prB p = true := by kernel_rfl
theorem bd0 : BindOk x0 := fun _ _ _ _ _ _ us hl => match us, hl with | [_], _ => rfl
theorem bd1 : BindOk x1 := fun _ _ _ _ _ _ us hl => match us, hl with | [_, _, _], _ => rfl
theorem bd2 : BindOk x2 := fun _ _ _ _ _ _ us hl => match us, hl with | [_], _ => rfl
theorem bd3 : BindOk x3 := fun _ _ _ _ _ _ us hl => match us, hl with | [_], _ => rfl
theorem bd4 : BindOk x4 := fun _ _ _ _ _ _ us hl => match us, hl with | [_], _ => rfl
theorem bd5 : BindOk x5 := fun _ _ _ _ _ _ us hl => match us, hl with | [_], _ => rfl
theorem bd6 : BindOk x6 := fun _ _ _ _ _ _ us hl => match us, hl with | [_, _], _ => rfl
theorem bd7 : BindOk x7 := fun _ _ _ _ _ _ us hl => match us, hl with | [_], _ => rfl
theorem bd8 : BindOk x8 := fun _ _ _ _ _ _ us hl => match us, hl with | [_, _], _ => rfl
theorem bd9 : BindOk x9 := fun _ _ _ _ _ _ us hl => match us, hl with | [_, _, _], _ => rfl
theorem bd10 : BindOk x10 := fun _ _ _ _ _ _ us hl => match us, hl with | [_, _, _], _ => rfl
theorem bd11 : BindOk x11 := fun _ _ _ _ _ _ us hl => match us, hl with | [_, _, _], _ => rfl
theorem bd12 : BindOk x12 := fun _ _ _ _ _ _ us hl => match us, hl with | [_, _, _], _ => rfl
theorem bd13 : BindOk x13 := fun _ _ _ _ _ _ us hl => match us, hl with | [_, _, _], _ => rfl
theorem bd14 : BindOk x14 := fun _ _ _ _ _ _ us hl => match us, hl with | [_, _, _], _ => rfl
theorem bd15 : BindOk x15 := fun _ _ _ _ _ _ us hl => match us, hl with | [_], _ => rfl
theorem bd16 : BindOk x16 := fun _ _ _ _ _ _ us hl => match us, hl with | [_], _ => rfl
theorem bd17 : BindOk x17 := fun _ _ _ _ _ _ us hl => match us, hl with | [_], _ => rfl
theorem bd18 : BindOk x18 := fun _ _ _ _ _ _ us hl => match us, hl with | [_, _, _, _], _ => rfl
theorem bd19 : BindOk x19 := fun _ _ _ _ _ _ us hl => match us, hl with | [_, _], _ => rfl
theorem bd20 : BindOk x20 := fun _ _ _ _ _ _ us hl => match us, hl with | [_, _], _ => rfl
theorem bd21 : BindOk x21 := fun _ _ _ _ _ _ us hl => match us, hl with | [_], _ => rfl
theorem bd22 : BindOk x22 := fun _ _ _ _ _ _ us hl => match us, hl with | [_], _ => rfl
theorem bd23 : BindOk x23 := fun _ _ _ _ _ _ us hl => match us, hl with | [_, _], _ => rfl
theorem bd24 : BindOk x24 := fun _ _ _ _ _ _ us hl => match us, hl with | [_], _ => rfl
theorem bd25 : BindOk x25 := fun _ _ _ _ _ _ us hl => match us, hl with | [_, _], _ => rfl
theorem bd26 : BindOk x26 := fun _ _ _ _ _ _ us hl => match us, hl with | [_], _ => rfl
theorem bd27 : BindOk x27 := fun _ _ _ _ _ _ us hl => match us, hl with | [_, _], _ => rfl
theorem bd28 : BindOk x28 := fun _ _ _ _ _ _ us hl => match us, hl with | [_, _, _, _], _ => rfl
theorem bd29 : BindOk x29 := fun _ _ _ _ _ _ us hl => match us, hl with | [_, _, _], _ => rfl
theorem bd30 : BindOk x30 := fun _ _ _ _ _ _ us hl => match us, hl with | [_], _ => rfl
theorem hb : ∀ x ∈ xs, BindOk x := by
  intro x hx
  unfold xs at hx
  simp only [List.mem_cons, List.not_mem_nil, or_false] at hx
  rcases hx with rfl | rfl | rfl | rfl | rfl | rfl | rfl | rfl | rfl | rfl | rfl | rfl | rfl | rfl | rfl | rfl | rfl | rfl | rfl | rfl | rfl | rfl | rfl | rfl | rfl | rfl | rfl | rfl | rfl | rfl | rfl
  · exact bd0
  · exact bd1
  · exact bd2
  · exact bd3
  · exact bd4
  · exact bd5
  · exact bd6
  · exact bd7
  · exact bd8
  · exact bd9
  · exact bd10
  · exact bd11
  · exact bd12
  · exact bd13
  · exact bd14
  · exact bd15
  · exact bd16
  · exact bd17
  · exact bd18
  · exact bd19
  · exact bd20
  · exact bd21
  · exact bd22
  · exact bd23
  · exact bd24
  · exact bd25
  · exact bd26
  · exact bd27
  · exact bd28
  · exact bd29
  · exact bd30
end Pd.k66
namespace Pd.k66
open PySem PySem.Spec PyProof.Rows L2
abbrev lawRow : PySem.W.OpenRow := PySem.W.OpenLaw.row PySem.Challenge.rw_coverwright_k66_whole_domino_papers
def fa : List He.Fa := faOf p
def fn : List He.DefD := xs.map defOf
abbrev hk : PySem.W.Hook := hookE 5 fa fn p
def ob (s : PySem.W.SharedT) : AlE := obsE 5 fa fn p (HandSHeadRun.getT s)
theorem ob_eq (s : PySem.W.SharedT) : ob s = hk.obs s.abs := obsE_eq (HandSHeadRun.getT_eq s)
def names : List PySem.Str := (["_wall", "CoverError", "BadBoard", "is_whole", "MOST_NUMBER", "is_board", "check_board", "pairs_to", "places_to", "pair_of", "cells_to", "CELL", "PAIR", "Laying", "_layings", "_none"] : List PySem.Str) ++ (["first_laying", "_path", "paper_fault", "_law_draws", "_law_places", "_law_pairs", "_law_pair", "_law_tilings", "_law_board", "_law_all", "_law_goals", "_law_path", "_law_bent"] : List PySem.Str)
theorem run (w : World) : HandSHeadRun.RunEq lawRow (PySem.W.view lawRow.prog [34]) hk ob 4000 names w := by
  intro os
  kernel_rfl
end Pd.k66
open PySem PySem.W PySem.Calls PyProof.Rows
theorem Pd.k66.holds_of (hev : ∀ ns : List Int, ns.length ≤ 63 → Pd.M (Pd.progOf Pd.k66.p) 60 30 [Pd.fz (.scr ns)] = .ok (Pd.fz (.bl true)) []) : PySem.Challenge.rw_coverwright_k66_whole_domino_papers.Holds := by
  w_on; o_law
  refine HandSHeadRun.head_any (r := OpenLaw.row PySem.Challenge.rw_coverwright_k66_whole_domino_papers) (q := view (OpenLaw.row PySem.Challenge.rw_coverwright_k66_whole_domino_papers).prog [34]) (H := Pd.k66.hk) (ob := Pd.k66.ob) (M := 4000) (loose := Pd.k66.names) (d := HandSHeadRun.topDef (OpenLaw.row PySem.Challenge.rw_coverwright_k66_whole_domino_papers).prog 34) (kwd := []) Pd.k66.ob_eq
    (by kernel_rfl) (fun s => by kernel_rfl) Pd.k66.run (by kernel_rfl) (by kernel_rfl) (by kernel_rfl) (by rfl) (by first | assumption | decide +kernel) (by decide +kernel) ⟨rfl, rfl, rfl, rfl, rfl, by decide +kernel⟩ ?hw ?hc
  case hw => w_witness2
  case hc =>
    refine L2.walk_ofE (l := PySem.Challenge.rw_coverwright_k66_whole_domino_papers) (n := 63) (k := 2 * 60) (x := "script") (CX := Pd.CXU (PySem.Challenge.rw_coverwright_k66_whole_domino_papers).prog) rfl (by decide) (by kernel_rfl) ⟨rfl, by decide, by decide⟩ ?F Pd.cxu_no
    · intro w mg fa h Y G hmg0
      obtain ⟨K, KX, c, cq⟩ := Y
      have hmg : mg ("law" : PySem.Str) = some (.ref fa) := by
        have e : (HandSHeadRun.topDef (OpenLaw.row PySem.Challenge.rw_coverwright_k66_whole_domino_papers).prog 34).name = ("law" : PySem.Str) := by kernel_rfl
        rw [← e]
        exact hmg0
      obtain ⟨fd, hb, hF⟩ := Pd.facts (P := (PySem.Challenge.rw_coverwright_k66_whole_domino_papers).prog) (w := w) (n := 60) (li := 30) (lx := Pd.k66.x30) (x := "script") Pd.k66.hx Pd.k66.hp Pd.k66.hb rfl rfl rfl rfl hev KX G hmg c cq
      exact ⟨K, fd, Pd.spLaw K, KX, hb, fun H a ns hl _ hS => ⟨a, ns, rfl, hl, hS, fun _ => rfl⟩, hF⟩

end
section
set_option linter.all false
set_option maxRecDepth 100000
set_option maxHeartbeats 0
set_option Elab.async false
namespace Pd.k66
open Pd
open Pd.Enc (enc)
/-! dominoes: cells, pairs, places, boards -/
abbrev Cell := Nat × Nat
abbrev Dom := Cell × Cell
inductive Tag where
  | cell | pair
deriving DecidableEq
instance : Enc Tag where
  enc t := match t with | .cell => .str [99, 101, 108, 108] | .pair => .str [112, 97, 105, 114]
  dp := 0
  eqE x y := by cases x <;> cases y <;> rfl
  plE n _ x := by cases n <;> cases x <;> rfl
  tkE n _ x := by cases n <;> cases x <;> rfl
  alE x y := by cases x <;> cases y <;> rfl
abbrev Goal := Tag × Cell
def cells (m : Nat) : List Cell := (List.range (m + 1)).flatMap fun r => (List.range (m + 2)).map fun c => (r, c)
def pairs (m : Nat) : List Cell := (List.range (m + 1)).flatMap fun a => (List.range (m + 1 - a)).map fun b => (a, a + b)
def places (m : Nat) : List Dom := (List.range (m + 1)).flatMap fun r => (List.range (m + 2)).flatMap fun c => (if c < m + 1 then [((r, c), (r, c + 1))] else []) ++ if r < m then [((r, c), (r + 1, c))] else []
def boardD (m : Nat) (b : Cell → Nat) : D := .tup ((List.range (m + 1)).map fun r => .tup ((List.range (m + 2)).map fun c => enc (b (r, c))))
theorem is_whole_M (n : Nat) (v a b : Int) : M prog (n + 1) n_is_whole [fz (.int v), fz (.int a), fz (.int b)] = .ok (fz (.bl (decide (a ≤ v ∧ v ≤ b)))) [] := by
  rw [M_succ (h := rfl)]
  by_cases h : a ≤ v <;> simp [i_is_whole, b_is_whole, h]
theorem pairs_to_M (n m : Nat) (h : m ≤ 4) : M prog (n + 1) n_pairs_to [fz (.int m)] = .ok (oL ((pairs m).map enc)) [] := by
  match m, h with
  | 0, _ => kernel_rfl
  | 1, _ => kernel_rfl
  | 2, _ => kernel_rfl
  | 3, _ => kernel_rfl
  | 4, _ => kernel_rfl
theorem cells_to_M (n m : Nat) (h : m ≤ 4) : M prog (n + 1) n_cells_to [fz (.int m)] = .ok (oL ((cells m).map enc)) [] := by
  match m, h with
  | 0, _ => kernel_rfl
  | 1, _ => kernel_rfl
  | 2, _ => kernel_rfl
  | 3, _ => kernel_rfl
  | 4, _ => kernel_rfl
theorem places_to_M (n m : Nat) (h : m ≤ 4) : M prog (n + 1) n_places_to [fz (.int m)] = .ok (oL ((places m).map enc)) [] := by
  match m, h with
  | 0, _ => kernel_rfl
  | 1, _ => kernel_rfl
  | 2, _ => kernel_rfl
  | 3, _ => kernel_rfl
  | 4, _ => kernel_rfl
theorem is_board_M (n m : Nat) (h : m ≤ 4) (b : Cell → Nat) (hb : ∀ c ∈ cells m, b c ≤ m) : M prog (n + 2) n_is_board [fz (boardD m b)] = .ok (fz (.bl true)) [] := by
  have w := fun v a b => is_whole_M n v a b
  simp only [n_is_whole] at w
  have hb' : ∀ r c, r < m + 1 → c < m + 2 → b (r, c) ≤ m := fun r c h1 h2 => hb (r, c) (by simp [cells]; omega)
  have e1 : (m : Int) + 1 + 1 = m + 2 := by omega
  have e2 : (m : Int) + 1 - 1 = m := by omega
  have h5 : (m : Int) + 1 ≤ 5 := by omega
  have h6 : (1 : Int) ≤ (m : Int) + 1 := by omega
  rw [M_succ (h := rfl)]
  simp [i_is_board, b_is_board, boardD, w, e1, e2, h5, h6, enc_nat]
  exact fun r h1 c h2 => hb' r c h1 h2
theorem check_board_M (n m : Nat) (h : m ≤ 4) (b : Cell → Nat) (hb : ∀ c ∈ cells m, b c ≤ m) : M prog (n + 3) n_check_board [fz (boardD m b)] = .ok (fz .non) [] := by
  have w := is_board_M n m h b hb
  simp only [n_is_board] at w
  rw [M_succ (h := rfl)]
  simp [i_check_board, b_check_board, w]
theorem sorted2 (a b : Int) : sortedS (oL [.int a, .int b]) = some (oL [.int (min a b), .int (max a b)]) := by
  show (if sortOk [.int a, .int b] = true then some (oL (sortD [.int a, .int b])) else none) = _
  rw [if_pos (show sortOk [D.int a, D.int b] = true from rfl)]
  show some (oL (if (!decide (b < a)) = true then [.int a, .int b] else [.int b, .int a])) = _
  by_cases h : b < a
  · have h1 : min a b = b := by omega
    have h2 : max a b = a := by omega
    simp [h, h1, h2]
  · have h1 : min a b = a := by omega
    have h2 : max a b = b := by omega
    simp [h, h1, h2]
def pairOf (b : Cell → Nat) (d : Dom) : Cell := (min (b d.1) (b d.2), max (b d.1) (b d.2))
theorem boardD_idx (m : Nat) (b : Cell → Nat) {r c : Nat} (hr : r < m + 1) (hc : c < m + 2) (e f i j : E) (ρ : Env) (Φ : Phi) (h1 : ev Φ e ρ = .ok (fz (boardD m b))) (h2 : ev Φ i ρ = .ok (fz (.int r))) (h3 : ev Φ j ρ = .ok (fz (.int c))) : ev Φ (.idx (.idx e i) j) ρ = .ok (fz (.int (b (r, c)))) := by
  simp [h1, h2, h3, boardD, hr, hc, enc_nat]
theorem places_lt {m : Nat} {d : Dom} (h : d ∈ places m) : (d.1.1 < m + 1 ∧ d.1.2 < m + 2) ∧ d.2.1 < m + 1 ∧ d.2.2 < m + 2 := by
  unfold places at h
  simp only [List.mem_flatMap, List.mem_range, List.mem_append] at h
  obtain ⟨r, hr, c, hc, h⟩ := h
  rcases h with h | h
  · split at h
    · simp at h; subst h; simp; omega
    · simp at h
  · split at h
    · simp at h; subst h; simp; omega
    · simp at h
theorem pair_of_M (n m : Nat) (b : Cell → Nat) (d : Dom) (hd : d ∈ places m) : M prog (n + 1) n_pair_of [fz (boardD m b), fz (enc d)] = .ok (fz (enc (pairOf b d))) [] := by
  obtain ⟨⟨h1, h2⟩, h3, h4⟩ := places_lt hd
  obtain ⟨⟨r, c⟩, s, t⟩ := d
  rw [M_succ (h := rfl)]
  simp only at h1 h2 h3 h4
  have so := sorted2 (b (r, c)) (b (s, t))
  simp [i_pair_of, b_pair_of, boardD, enc_prod, enc_nat, h1, h2, h3, h4, -u_sortedS, so, pairOf, atI]
  omega
theorem nodup_places (m : Nat) (h : m ≤ 4) : (places m).Nodup := by
  match m, h with
  | 0, _ => decide +kernel
  | 1, _ => decide +kernel
  | 2, _ => decide +kernel
  | 3, _ => decide +kernel
  | 4, _ => decide +kernel
def goals (m : Nat) : List Goal := (cells m).map (fun c => (.cell, c)) ++ (pairs m).map fun p => (.pair, p)
theorem nodup_goals (m : Nat) (h : m ≤ 4) : (goals m).Nodup := by
  match m, h with
  | 0, _ => decide +kernel
  | 1, _ => decide +kernel
  | 2, _ => decide +kernel
  | 3, _ => decide +kernel
  | 4, _ => decide +kernel
theorem goals_le (m : Nat) (h : m ≤ 4) : (goals m).length ≤ 45 ∧ (cells m).length ≤ 30 ∧ (pairs m).length ≤ 15 ∧ (places m).length ≤ 49 := by
  match m, h with
  | 0, _ => decide +kernel
  | 1, _ => decide +kernel
  | 2, _ => decide +kernel
  | 3, _ => decide +kernel
  | 4, _ => decide +kernel
def gs (b : Cell → Nat) (d : Dom) : List Goal := [(.cell, d.1), (.cell, d.2), (.pair, pairOf b d)]
def having (m : Nat) (b : Cell → Nat) (g : Goal) : List Dom := (places m).filter fun d => decide (g ∈ gs b d)
/-- a laying as a value -/
def layD (m : Nat) (b : Cell → Nat) : D := .ins c_Laying [fl_places, fl_goals, fl__goals, fl_having] [.lst ((places m).map enc), .lst ((goals m).map enc), .dct ((places m).map enc) ((places m).map fun d => .lst ((gs b d).map enc)), .dct ((goals m).map enc) ((goals m).map fun g => .lst ((having m b g).map enc))]
theorem kt_dom (d : Dom) : isKT (enc d) = true := isKT_prod (by decide) (by decide) d
theorem kt_goal (d : Goal) : isKT (enc d) = true := isKT_prod (by decide) (by decide) d
theorem init_ok (Φ : Phi) (m : Nat) (h : m ≤ 4) (b : Cell → Nat) (w1 : Φ n_places_to [fz (.int m)] = .ok (oL ((places m).map enc)) []) (w2 : Φ n_cells_to [fz (.int m)] = .ok (oL ((cells m).map enc)) []) (w3 : Φ n_pairs_to [fz (.int m)] = .ok (oL ((pairs m).map enc)) []) (w4 : ∀ d ∈ places m, Φ n_pair_of [fz (boardD m b), fz (enc d)] = .ok (fz (enc (pairOf b d))) []) : makeS (runFn Φ i_Laying_init [.ins c_Laying [] [], fz (boardD m b)]) = .ok (.ins c_Laying [fl_places, fl_goals, fl__goals, fl_having] [.fz (.lst ((places m).map enc)), .fz (.lst ((goals m).map enc)), .dct ((places m).map enc) ((places m).map fun d => .lst ((gs b d).map enc)), .dct ((goals m).map enc) ((goals m).map fun g => .lst ((having m b g).map enc))]) := by
  simp only [n_places_to, n_cells_to, n_pairs_to, n_pair_of] at w1 w2 w3 w4
  obtain ⟨l1, l2, l3, l4⟩ := goals_le m h
  have e2 : (m : Int) + 1 - 1 = m := by omega
  obtain ⟨B1, hB1⟩ : ∃ B : List S, B = [.asg (.nm 5) (.call n_pair_of [(.var 1), (.var 3)]), .frz [5], .asg (.sub (.a 0 fl__goals) (.var 3)) (.lst [(.tup [(.lit (.str [99, 101, 108, 108])), (.idx (.var 3) (.lit (.int 0)))]), (.tup [(.lit (.str [99, 101, 108, 108])), (.idx (.var 3) (.lit (.int 1)))]), (.tup [(.lit (.str [112, 97, 105, 114])), (.var 5)])])] := ⟨_, rfl⟩
  obtain ⟨B2, hB2⟩ : ∃ B : List S, B = [.asg (.sub (.a 0 fl_having) (.var 4)) (.comp (.var 3) (.nm 3) (.seq (.att (.var 0) fl_places)) [(.cmp .in_ (.var 4) (.idx (.att (.var 0) fl__goals) (.var 3)))] [3])] := ⟨_, rfl⟩
  have hb : b_Laying_init = [.asg (.nm 2) (.bin .sub (.bi .len [(.var 1)]) (.lit (.int 1))), .asg (.att 0 fl_places) (.call n_places_to [(.var 2)]), .asg (.att 0 fl_goals) (.bin .add (.comp (.tup [(.lit (.str [99, 101, 108, 108])), (.var 6)]) (.nm 6) (.seq (.call n_cells_to [(.var 2)])) [] [6]) (.comp (.tup [(.lit (.str [112, 97, 105, 114])), (.var 5)]) (.nm 5) (.seq (.call n_pairs_to [(.var 2)])) [] [5])), .asg (.att 0 fl__goals) (.dnew), .for_ (.nm 3) (.seq (.att (.var 0) fl_places)) B1, .asg (.att 0 fl_having) (.dnew), .for_ (.nm 4) (.seq (.att (.var 0) fl_goals)) B2] := by rw [hB1, hB2]; rfl
  let pl : D := .lst ((places m).map enc)
  let gl : D := .lst ((goals m).map enc)
  let P1 : List Dom → Env → Prop := fun pre ρ => ∃ a c, ρ = [some (.ins c_Laying [fl_places, fl_goals, fl__goals] [.fz pl, .fz gl, .dct (pre.map enc) (pre.map fun d => .lst ((gs b d).map enc))]), some (fz (boardD m b)), some (fz (.int m)), a, none, c, none]
  have loop1 := loopF_run (f := fun x ρ1 => exs Φ B1 (ρ1.set 3 (some (fz x)))) (g := (enc : Dom → D)) (full := places m) P1 (ρ := [some (.ins c_Laying [fl_places, fl_goals, fl__goals] [.fz pl, .fz gl, .dct [] []]), some (fz (boardD m b)), some (fz (.int m)), none, none, none, none]) ⟨none, none, rfl⟩ (by
    rintro pre x post ρ hf ⟨a, c, rfl⟩
    have hx : x ∈ places m := by rw [hf]; simp
    have hn := nodup_pre (nodup_places m h) hf
    have hl : pre.length < 16777216 := by
      have := congrArg List.length hf
      simp at this
      omega
    have w := w4 x hx
    have k := keyOk_of kt_dom pre x
    refine ⟨_, ?_, some (fz (enc x)), some (fz (enc (pairOf b x))), rfl⟩
    rw [hB1]
    simp [w, k, hl, -u_putKs_map, -List.map_append]
    exact ⟨putKs_new hn.1, putVs_new (fun d => D.lst ((gs b d).map enc)) hn.1⟩)
  obtain ⟨ρ1, f1, a1, c1, rfl⟩ := loop1
  let P2 : List Goal → Env → Prop := fun pre ρ => ∃ a c d, ρ = [some (.ins c_Laying [fl_places, fl_goals, fl__goals, fl_having] [.fz pl, .fz gl, .dct ((places m).map enc) ((places m).map fun d => .lst ((gs b d).map enc)), .dct (pre.map enc) (pre.map fun g => .lst ((having m b g).map enc))]), some (fz (boardD m b)), some (fz (.int m)), a, d, c, none]
  have loop2 := loopF_run (f := fun x ρ1 => exs Φ B2 (ρ1.set 4 (some (fz x)))) (g := (enc : Goal → D)) (full := goals m) P2 (ρ := [some (.ins c_Laying [fl_places, fl_goals, fl__goals, fl_having] [.fz pl, .fz gl, .dct ((places m).map enc) ((places m).map fun d => .lst ((gs b d).map enc)), .dct [] []]), some (fz (boardD m b)), some (fz (.int m)), a1, none, c1, none]) ⟨a1, c1, none, rfl⟩ (by
    rintro pre x post ρ hf ⟨a, c, d, rfl⟩
    have hn := nodup_pre (nodup_goals m h) hf
    have hl : pre.length < 16777216 := by
      have := congrArg List.length hf
      simp at this
      omega
    have k := keyOk_of kt_goal pre x
    have k2 := keyOk_of kt_dom (places m)
    have p1 : ∀ x : Goal, plain 60 (enc x) = true := plE20 (by decide)
    have p2 := plains_map (α := Goal) 60 (by decide)
    refine ⟨_, ?_, a, c, some (fz (enc x)), rfl⟩
    rw [hB2]
    simp [k, k2, hl, pl, p1, p2, -u_putKs_map, -List.map_append]
    rw [compT_f (p := fun d => decide (x ∈ gs b d)) (h := enc) (fun d hd => by by_cases c : x ∈ gs b d <;> simp [hd, c, p1, p2])]
    simp [k, k2, hl, pl, p1, p2, -u_putKs_map, -List.map_append]
    exact ⟨putKs_new hn.1, putVs_new (fun g => D.lst ((having m b g).map enc)) hn.1⟩)
  obtain ⟨ρ2, f2, a2, c2, d2, rfl⟩ := loop2
  have hpl : pl = .lst ((places m).map enc) := rfl
  have hgl : gl = .lst ((cells m).map (fun c => enc ((.cell, c) : Goal)) ++ (pairs m).map fun p => enc ((.pair, p) : Goal)) := by simp [gl, goals]
  have e1 : ∀ c : Cell, (D.tup [.str [99, 101, 108, 108], enc c]) = enc ((.cell, c) : Goal) := fun _ => rfl
  have e2' : ∀ c : Cell, (D.tup [.str [112, 97, 105, 114], enc c]) = enc ((.pair, c) : Goal) := fun _ => rfl
  have hg2 : (goals m).map enc = ((cells m).map (fun c => enc ((.cell, c) : Goal)) ++ (pairs m).map fun p => enc ((.pair, p) : Goal)) := by simp [goals]
  have bl : lenS (fz (boardD m b)) = some (fz (.int (m + 1))) := by simp [boardD]
  simp only [hpl, hgl, boardD] at f1 f2 bl
  have e2 : (m : Int) + 1 - 1 = m := by omega
  have l5 : (cells m).length + (pairs m).length ≤ 16777216 := by omega
  simp [hg2, n_Laying_init] at f1 f2
  simp [i_Laying_init, hb, bl, w1, w2, w3, e2, e1, e2', hg2, l5, boardD]
  simp [f1]
  simp [f2]
theorem init_M (n m : Nat) (h : m ≤ 4) (b : Cell → Nat) : makeS (M prog (n + 2) n_Laying_init [.ins c_Laying [] [], fz (boardD m b)]) = .ok (.ins c_Laying [fl_places, fl_goals, fl__goals, fl_having] [.fz (.lst ((places m).map enc)), .fz (.lst ((goals m).map enc)), .dct ((places m).map enc) ((places m).map fun d => .lst ((gs b d).map enc)), .dct ((goals m).map enc) ((goals m).map fun g => .lst ((having m b g).map enc))]) := by
  rw [M_succ (h := rfl)]
  exact init_ok _ m h b (places_to_M n m h) (cells_to_M n m h) (pairs_to_M n m h) fun d hd => pair_of_M n m b d hd

/-! dominoes: the methods of Laying -/
section
variable (Φ : Phi) (m : Nat) (b : Cell → Nat)
theorem going_ok {left : List Dom} {d : Dom} (hd : d ∈ places m) (hl : ∀ x ∈ left, x ∈ places m) : runFn Φ i_Laying_going [fz (layD m b), fz (.lst (left.map enc)), fz (enc d)] = .ok (oL ((Cov.going (gs b) left d).map enc)) [] := by
  have k := keyOk_of kt_dom (places m)
  have p1 : ∀ x : Goal, plain 60 (enc x) = true := plE20 (by decide)
  have p2 := plains_map (α := Goal) 60 (by decide)
  simp [i_Laying_going, b_Laying_going, layD, k, hd, p1, p2]
  rw [compT_f (p := Cov.apart (gs b) d) (h := enc) (fun x hx => by
    simp [hl x hx, p1, p2]
    show (if Cov.apart (gs b) d x = true then R.ok (some (enc x)) else R.ok none) = _
    cases Cov.apart (gs b) d x <;> rfl)]
  simp
  rfl
theorem still_ok {goals : List Goal} {d : Dom} (hd : d ∈ places m) : runFn Φ i_Laying_still [fz (layD m b), fz (.lst (goals.map enc)), fz (enc d)] = .ok (oL ((Cov.still (gs b) goals d).map enc)) [] := by
  have k := keyOk_of kt_dom (places m)
  have p1 : ∀ x : Goal, plain 60 (enc x) = true := plE20 (by decide)
  have p2 := plains_map (α := Goal) 60 (by decide)
  simp [i_Laying_still, b_Laying_still, layD, k, hd, p1, p2, Cov.still]
  congr 1
  exact List.filter_congr fun x _ => by simp
/-- the best goal so far, with its rows -/
def better {α β : Type} (rows : α → List β) (b : Option (α × List β)) (g : α) : Option (α × List β) := match b with
  | none => some (g, rows g)
  | some (h, rs) => if (rows g).length < rs.length then some (g, rows g) else some (h, rs)
def bestD : Option (Goal × List Dom) → D
  | none => .non
  | some (g, rs) => .tup [enc g, .lst (rs.map enc)]
def rowsOf (left : List Dom) (g : Goal) : List Dom := (having m b g).filter fun y => decide (y ∈ left)
def scarce (left : List Dom) (goals : List Goal) : Option (Goal × List Dom) := goals.foldl (better (rowsOf m b left)) none
theorem scarce_ok {left : List Dom} {gls : List Goal} (hg : ∀ g ∈ gls, g ∈ goals m) : runFn Φ i_Laying_scarce [fz (layD m b), fz (.lst (left.map enc)), fz (.lst (gls.map enc))] = .ok (fz (bestD (scarce m b left gls))) [] := by
  have k := keyOk_of kt_goal (goals m)
  have p1 : ∀ x : Dom, plain 60 (enc x) = true := plE20 (by decide)
  have p2 := plains_map (α := Dom) 60 (by decide)
  obtain ⟨B, hB⟩ : ∃ B : List S, B = [.asg (.nm 5) (.comp (.var 6) (.nm 6) (.seq (.idx (.att (.var 0) fl_having) (.var 4))) [(.cmp .in_ (.var 6) (.var 1))] [6]), .frz [5], .if_ (.or (.cmp .is_ (.var 3) (.lit (.non))) (.cmp .lt (.bi .len [(.var 5)]) (.bi .len [(.idx (.var 3) (.lit (.int 1)))]))) [.asg (.nm 3) (.tup [(.var 4), (.var 5)])] []] := ⟨_, rfl⟩
  have hb : b_Laying_scarce = [.asg (.nm 3) (.lit (.non)), .for_ (.nm 4) (.seq (.var 2)) B, .retv 3] := by rw [hB]; rfl
  let P : List Goal → Env → Prop := fun pre ρ => ∃ a c, ρ = [some (fz (layD m b)), some (fz (.lst (left.map enc))), some (fz (.lst (gls.map enc))), some (fz (bestD (scarce m b left pre))), a, c, none]
  obtain ⟨ρ, e, a, c, rfl⟩ := loopF_run (f := fun x ρ1 => exs Φ B (ρ1.set 4 (some (fz x)))) (g := (enc : Goal → D)) (full := gls) P (ρ := [some (fz (layD m b)), some (fz (.lst (left.map enc))), some (fz (.lst (gls.map enc))), some (fz .non), none, none, none]) ⟨none, none, rfl⟩ (by
    rintro pre x post ρ hf ⟨a, c, rfl⟩
    have hx : x ∈ goals m := hg x (by rw [hf]; simp)
    refine ⟨_, ?_, some (fz (enc x)), some (fz (.lst ((rowsOf m b left x).map enc))), rfl⟩
    have s : scarce m b left (pre ++ [x]) = better (rowsOf m b left) (scarce m b left pre) x := by
      unfold scarce
      rw [List.foldl_append]
      rfl
    rw [hB, s]
    cases scarce m b left pre with
    | none => simp [layD, k, hx, p1, p2, bestD, better, rowsOf]
    | some q =>
      obtain ⟨g, rs⟩ := q
      by_cases c : (rowsOf m b left x).length < rs.length
      · have c' := c
        simp only [rowsOf] at c'
        simp [layD, k, hx, p1, p2, bestD, better, rowsOf, c']
      · have c' := c
        simp only [rowsOf] at c'
        simp [layD, k, hx, p1, p2, bestD, better, rowsOf, c'])
  simp [i_Laying_scarce, hb, e]
end

/-! dominoes: the searches -/
section
variable (m : Nat) (b : Cell → Nat)
def rowsC (left : List Dom) (goals : List Goal) : List Dom := match scarce m b left goals with
  | none => []
  | some (_, rs) => rs
theorem scarce_some (left : List Dom) : ∀ (gls : List Goal), gls ≠ [] → ∃ g ∈ gls, scarce m b left gls = some (g, rowsOf m b left g) := by
  have key : ∀ (gls : List Goal) (a : Goal), ∃ g, (g = a ∨ g ∈ gls) ∧ gls.foldl (better (rowsOf m b left)) (some (a, rowsOf m b left a)) = some (g, rowsOf m b left g) := by
    intro gls
    induction gls with
    | nil => intro a; exact ⟨a, .inl rfl, rfl⟩
    | cons x gls ih =>
      intro a
      rw [List.foldl_cons]
      simp only [better]
      split
      · obtain ⟨g, h, e⟩ := ih x
        exact ⟨g, .inr (by rcases h with rfl | h <;> simp [*]), e⟩
      · obtain ⟨g, h, e⟩ := ih a
        exact ⟨g, h.imp id (List.mem_cons_of_mem _), e⟩
  intro gls h
  cases gls with
  | nil => exact absurd rfl h
  | cons a gls =>
    obtain ⟨g, h, e⟩ := key gls a
    exact ⟨g, by rcases h with rfl | h <;> simp [*], e⟩
theorem rowsC_pick (h : m ≤ 4) : Cov.Pick (gs b) (places m) (goals m) (rowsC m b) := by
  intro left gls hne hl hu hv hi
  obtain ⟨g, hg, e⟩ := scarce_some m b left gls hne
  have r : rowsC m b left gls = rowsOf m b left g := by unfold rowsC; rw [e]
  rw [r]
  refine ⟨((nodup_places m h).filter _).filter _, g, hg, fun d => ?_⟩
  unfold rowsOf having
  rw [List.mem_filter, List.mem_filter]
  simp only [decide_eq_true_eq]
  exact ⟨fun q => ⟨q.2, q.1.2⟩, fun q => ⟨⟨hu d q.1, q.2⟩, q.1⟩⟩
theorem rowsC_left {left : List Dom} {gls : List Goal} {d : Dom} (h : d ∈ rowsC m b left gls) : d ∈ left := by
  unfold rowsC at h
  cases gls with
  | nil => exact absurd h (by simp [scarce])
  | cons a t =>
    obtain ⟨g, hg, e⟩ := scarce_some m b left (a :: t) (by simp)
    rw [e] at h
    simp [rowsOf] at h
    exact h.2
theorem len0 {α : Type} {xs : List α} (h : xs ≠ []) : ((xs.length : Int) == 0) = false := by
  cases xs with
  | nil => exact absurd rfl h
  | cons a b => simp; omega
theorem layD_ins : ∃ ns vs, layD m b = .ins c_Laying ns vs := ⟨_, _, rfl⟩
theorem all_nil (Φ : Phi) (L x : D) : runFn Φ i_Laying_all_of [fz L, fz x, fz (.lst [])] = .ok (oL [.lst []]) [] := by
  simp [i_Laying_all_of, b_Laying_all_of]
def wayL (w : List Dom) : D := .lst (w.map enc)
theorem all_step (Φ : Phi) (L : D) (hL : ∃ ns vs, L = .ins c_Laying ns vs) {left : List Dom} {gls : List Goal} {rows : List Dom} {g : D} {going : Dom → List Dom} {still : Dom → List Goal} {ws : Dom → List (List Dom)} (hg : gls ≠ []) (hs : Φ n_Laying_scarce [fz L, fz (.lst (left.map enc)), fz (.lst (gls.map enc))] = .ok (fz (.tup [g, .lst (rows.map enc)])) [])
    (h1 : ∀ d ∈ rows, Φ n_Laying_going [fz L, fz (.lst (left.map enc)), fz (enc d)] = .ok (oL ((going d).map enc)) []) (h2 : ∀ d ∈ rows, Φ n_Laying_still [fz L, fz (.lst (gls.map enc)), fz (enc d)] = .ok (oL ((still d).map enc)) [])
    (h3 : ∀ d ∈ rows, Φ n_Laying_all_of [fz L, fz (.lst ((going d).map enc)), fz (.lst ((still d).map enc))] = .ok (oL ((ws d).map wayL)) []) (hw : ∀ d ∈ rows, ∀ w ∈ ws d, w.length < 1000) (hz : (rows.flatMap ws).length ≤ 16777216) :
    runFn Φ i_Laying_all_of [fz L, fz (.lst (left.map enc)), fz (.lst (gls.map enc))] = .ok (oL ((rows.flatMap fun d => (ws d).map (d :: ·)).map wayL)) [] := by
  obtain ⟨ns, vs, rfl⟩ := hL
  simp only [c_Laying, n_Laying_scarce, n_Laying_going, n_Laying_still, n_Laying_all_of] at hs h1 h2 h3
  obtain ⟨B, hB⟩ : ∃ B : List S, B = [.asg (.nm 7) (.meth c_Laying n_Laying_all_of (.var 0) [(.meth c_Laying n_Laying_going (.var 0) [(.var 1), (.var 4)]), (.meth c_Laying n_Laying_still (.var 0) [(.var 2), (.var 4)])]), .frz [7], .ext (.v 3) (.comp (.bin .add (.lst [(.var 4)]) (.var 8)) (.nm 8) (.seq (.var 7)) [] [8])] := ⟨_, rfl⟩
  have hb : b_Laying_all_of = [.if_ (.cmp .eq (.bi .len [(.var 2)]) (.lit (.int 0))) [.ret (.lst [(.lst [])])] [], .asg (.tu [(.nm 5), (.nm 6)]) (.meth c_Laying n_Laying_scarce (.var 0) [(.var 1), (.var 2)]), .asg (.nm 3) (.lst []), .for_ (.nm 4) (.seq (.var 6)) B, .retv 3] := by rw [hB]; rfl
  let P : List Dom → Env → Prop := fun pre ρ => ∃ a c, ρ = [some (fz (.ins c_Laying ns vs)), some (fz (.lst (left.map enc))), some (fz (.lst (gls.map enc))), some (oL ((pre.flatMap fun d => (ws d).map (d :: ·)).map wayL)), a, some (fz g), some (fz (.lst (rows.map enc))), c, none]
  obtain ⟨ρ, e, a, c, rfl⟩ := loopF_run (f := fun x ρ1 => exs Φ B (ρ1.set 4 (some (fz x)))) (g := (enc : Dom → D)) (full := rows) P (ρ := [some (fz (.ins c_Laying ns vs)), some (fz (.lst (left.map enc))), some (fz (.lst (gls.map enc))), some (oL []), none, some (fz g), some (fz (.lst (rows.map enc))), none, none]) ⟨none, none, rfl⟩ (by
    rintro pre x post ρ hf ⟨a, c, rfl⟩
    have hx : x ∈ rows := by rw [hf]; simp
    have hz' : (pre.flatMap fun d => (ws d).map (d :: ·)).length + (ws x).length ≤ 16777216 := by
      rw [hf] at hz
      simp [List.length_flatMap] at hz ⊢
      omega
    have hw' : ∀ w ∈ ws x, w.length + 1 ≤ 16777216 := fun w q => by have := hw x hx w q; omega
    have hw2 : ∀ w ∈ ws x, 1 + w.length ≤ 16777216 := fun w q => by have := hw x hx w q; omega
    refine ⟨_, ?_, some (fz (enc x)), some (fz (.lst ((ws x).map wayL))), rfl⟩
    rw [hB]
    simp [List.length_flatMap] at hz'
    simp -implicitDefEqProofs [h1 x hx, h2 x hx, h3 x hx, wayL, hz']
    rw [compT_m (h := fun w => .lst (enc x :: w.map enc)) (fun w hw => by simp -implicitDefEqProofs [hw' w hw, hw2 w hw])]
    simp -implicitDefEqProofs [hz'])
  have e' : ([] : List Dom).flatMap (fun d => (ws d).map (d :: ·)) = [] := rfl
  simp [i_Laying_all_of, hb, hg, hs, e]
end

/-! dominoes: all ways, papers, and what is told -/
section
theorem len_flatMap {α β : Type} {f : α → List β} {x : α} : ∀ {xs : List α}, x ∈ xs → (f x).length ≤ (xs.flatMap f).length
  | y :: xs, h => by
    rw [List.flatMap_cons, List.length_append]
    rcases List.mem_cons.mp h with rfl | h
    · omega
    · have := len_flatMap (f := f) h
      omega
variable (m : Nat) (b : Cell → Nat)
theorem all_ok (h : m ≤ 4) : ∀ (n : Nat) (left : List Dom) (gls : List Goal), gls.length ≤ n → n < 900 → (∀ d ∈ left, d ∈ places m) → (∀ g ∈ gls, g ∈ goals m) → Cov.Inv (gs b) left gls → (Cov.allC (rowsC m b) (gs b) n left gls).length ≤ 16777216 → M prog (n + 2) n_Laying_all_of [fz (layD m b), fz (.lst (left.map enc)), fz (.lst (gls.map enc))] = .ok (oL ((Cov.allC (rowsC m b) (gs b) n left gls).map wayL)) []
  | n, left, [], _, _, _, _, _, _ => by
    have e : Cov.allC (rowsC m b) (gs b) n left [] = [[]] := by cases n <;> rfl
    rw [e, M_succ (h := rfl)]
    exact all_nil _ _ _
  | 0, _, _ :: _, hn, _, _, _, _, _ => absurd hn (by simp)
  | n + 1, left, g :: t, hn, h9, hu, hv, hi, hz => by
    obtain ⟨g', hg', e⟩ := scarce_some m b left (g :: t) (by simp)
    have er : rowsC m b left (g :: t) = rowsOf m b left g' := by unfold rowsC; rw [e]
    rw [M_succ (h := rfl)]
    unfold Cov.allC at hz ⊢
    rw [er] at hz ⊢
    have hr : ∀ d ∈ rowsOf m b left g', d ∈ left := fun d hd => rowsC_left m b (er ▸ hd)
    refine all_step _ _ (layD_ins m b) (g := enc g') (by simp) ?_ (fun d hd => ?_) (fun d hd => ?_) (fun d hd => all_ok h n _ _ ?_ (by omega) ?_ ?_ ?_ ?_) ?_ ?_
    · rw [M_succ (h := rfl), scarce_ok _ _ _ hv, e]
      rfl
    · rw [M_succ (h := rfl)]
      exact going_ok _ _ _ (hu d (hr d hd)) hu
    · rw [M_succ (h := rfl)]
      exact still_ok _ _ _ (hu d (hr d hd))
    · have := Cov.still_lt hi (hr d hd)
      omega
    · exact fun x hx => hu x (Cov.mem_going.mp hx).1
    · exact fun x hx => hv x (Cov.mem_still.mp hx).1
    · exact hi.step d
    · refine Nat.le_trans ?_ hz
      have := len_flatMap (f := fun d => (Cov.allC (rowsC m b) (gs b) n (Cov.going (gs b) left d) (Cov.still (gs b) (g :: t) d)).map (d :: ·)) hd
      simpa using this
    · intro d hd w hw
      have := Cov.allC_len _ n _ _ w hw
      omega
    · simpa [List.length_flatMap] using hz
end

/-! dominoes: papers -/
section
variable (m : Nat) (b : Cell → Nat)
/-- the paper that nothing covers -/
def paperD : Nat → List Dom → List Goal → D
  | 0, _, _ => .non
  | n + 1, left, gls => match scarce m b left gls with
    | none => .non
    | some (g, rs) => .tup [enc g.1, enc g.2, .tup (rs.map fun d => paperD n (Cov.going (gs b) left d) (Cov.still (gs b) gls d))]
theorem paper_step (Φ : Phi) (L : D) (hL : ∃ ns vs, L = .ins c_Laying ns vs) {left : List Dom} {gls : List Goal} {rows : List Dom} {g : Goal} {going : Dom → List Dom} {still : Dom → List Goal} {r : Dom → D} (hs : Φ n_Laying_scarce [fz L, fz (.lst (left.map enc)), fz (.lst (gls.map enc))] = .ok (fz (.tup [enc g, .lst (rows.map enc)])) [])
    (h1 : ∀ d ∈ rows, Φ n_Laying_going [fz L, fz (.lst (left.map enc)), fz (enc d)] = .ok (oL ((going d).map enc)) []) (h2 : ∀ d ∈ rows, Φ n_Laying_still [fz L, fz (.lst (gls.map enc)), fz (enc d)] = .ok (oL ((still d).map enc)) [])
    (h3 : ∀ d ∈ rows, Φ n_Laying_paper [fz L, fz (.lst ((going d).map enc)), fz (.lst ((still d).map enc))] = .ok (fz (r d)) []) (hl : rows.length < 1000) : runFn Φ i_Laying_paper [fz L, fz (.lst (left.map enc)), fz (.lst (gls.map enc))] = .ok (fz (.tup [enc g.1, enc g.2, .tup (rows.map r)])) [] := by
  obtain ⟨ns, vs, rfl⟩ := hL
  simp only [c_Laying, n_Laying_scarce, n_Laying_going, n_Laying_still, n_Laying_paper] at hs h1 h2 h3
  have e : enc g = D.tup [enc g.1, enc g.2] := rfl
  simp -implicitDefEqProofs [i_Laying_paper, b_Laying_paper, hs, e]
  rw [compT_m (h := r) (fun d hd => by simp -implicitDefEqProofs [h1 d hd, h2 d hd, h3 d hd])]
  simp -implicitDefEqProofs
theorem paper_ok (h : m ≤ 4) : ∀ (n : Nat) (left : List Dom) (gls : List Goal), gls.length ≤ n → (∀ d ∈ left, d ∈ places m) → (∀ g ∈ gls, g ∈ goals m) → Cov.Inv (gs b) left gls → Cov.allC (rowsC m b) (gs b) n left gls = [] → M prog (n + 2) n_Laying_paper [fz (layD m b), fz (.lst (left.map enc)), fz (.lst (gls.map enc))] = .ok (fz (paperD m b n left gls)) []
  | n, left, [], _, _, _, _, hc => by cases n <;> simp [Cov.allC] at hc
  | 0, _, _ :: _, hn, _, _, _, _ => absurd hn (by simp)
  | n + 1, left, g :: t, hn, hu, hv, hi, hc => by
    obtain ⟨g', hg', e⟩ := scarce_some m b left (g :: t) (by simp)
    have er : rowsC m b left (g :: t) = rowsOf m b left g' := by unfold rowsC; rw [e]
    rw [M_succ (h := rfl)]
    unfold Cov.allC at hc
    unfold paperD
    rw [e]
    rw [er] at hc
    have hr : ∀ d ∈ rowsOf m b left g', d ∈ left := fun d hd => rowsC_left m b (er ▸ hd)
    refine paper_step _ _ (layD_ins m b) (g := g') ?_ (fun d hd => ?_) (fun d hd => ?_) (fun d hd => paper_ok h n _ _ ?_ ?_ ?_ ?_ ?_) ?_
    · rw [M_succ (h := rfl), scarce_ok _ _ _ hv, e]
      rfl
    · rw [M_succ (h := rfl)]
      exact going_ok _ _ _ (hu d (hr d hd)) hu
    · rw [M_succ (h := rfl)]
      exact still_ok _ _ _ (hu d (hr d hd))
    · have := Cov.still_lt hi (hr d hd)
      omega
    · exact fun x hx => hu x (Cov.mem_going.mp hx).1
    · exact fun x hx => hv x (Cov.mem_still.mp hx).1
    · exact hi.step d
    · rw [List.flatMap_eq_nil_iff] at hc
      simpa using hc d hd
    · have h1 : (rowsOf m b left g').length ≤ (places m).length := Nat.le_trans (List.length_filter_le _ _) (List.length_filter_le _ _)
      have := (goals_le m h).2.2.2
      omega
end

/-! dominoes: right layings are the tilings with each pair once -/
section
open Cov
theorem flatMap_congr' {α β : Type} {f g : α → List β} : ∀ {xs : List α}, (∀ x ∈ xs, f x = g x) → xs.flatMap f = xs.flatMap g
  | [], _ => rfl
  | x :: xs, h => by rw [List.flatMap_cons, List.flatMap_cons, h x List.mem_cons_self, flatMap_congr' fun y hy => h y (List.mem_cons_of_mem _ hy)]
theorem allC_fuel {δ γ : Type} [DecidableEq δ] [DecidableEq γ] {gs : δ → List γ} {rows : List δ → List γ → List δ} (hr : ∀ left gls d, d ∈ rows left gls → d ∈ left) : ∀ (n k : Nat) (left : List δ) (gls : List γ), gls.length ≤ n → gls.length ≤ k → Inv gs left gls → allC rows gs n left gls = allC rows gs k left gls
  | n, k, left, [], _, _, _ => by cases n <;> cases k <;> rfl
  | 0, _, _, _ :: _, h, _, _ => absurd h (by simp)
  | _, 0, _, _ :: _, _, h, _ => absurd h (by simp)
  | n + 1, k + 1, left, g :: t, hn, hk, hi => by
    unfold allC
    refine flatMap_congr' fun d hd => ?_
    have hd' := hr _ _ _ hd
    have := still_lt hi hd'
    rw [allC_fuel hr n k _ _ (by omega) (by omega) (hi.step d)]
structure OkB (m : Nat) (b : Cell → Nat) : Prop where
  le : m ≤ 4
  bd : ∀ c ∈ cells m, b c ≤ m
theorem mem_cells {m : Nat} {c : Cell} : c ∈ cells m ↔ c.1 < m + 1 ∧ c.2 < m + 2 := by
  obtain ⟨r, s⟩ := c
  simp [cells]
theorem mem_pairs {m : Nat} {c : Cell} : c ∈ pairs m ↔ c.1 ≤ c.2 ∧ c.2 < m + 1 := by
  obtain ⟨r, s⟩ := c
  simp only [pairs, List.mem_flatMap, List.mem_range, List.mem_map, Prod.mk.injEq]
  constructor
  · rintro ⟨a, h, k, h2, rfl, rfl⟩
    omega
  · rintro ⟨h1, h2⟩
    exact ⟨r, by omega, s - r, by omega, rfl, by omega⟩
theorem mem_goals {m : Nat} {g : Goal} : g ∈ goals m ↔ (g.1 = .cell ∧ g.2 ∈ cells m) ∨ (g.1 = .pair ∧ g.2 ∈ pairs m) := by
  obtain ⟨t, c⟩ := g
  unfold goals
  rw [List.mem_append, List.mem_map, List.mem_map]
  cases t <;> simp
variable {m : Nat} {b : Cell → Nat} (B : OkB m b)
theorem place_cells {d : Dom} (h : d ∈ places m) : d.1 ∈ cells m ∧ d.2 ∈ cells m := by
  obtain ⟨⟨h1, h2⟩, h3, h4⟩ := places_lt h
  exact ⟨mem_cells.mpr ⟨h1, h2⟩, mem_cells.mpr ⟨h3, h4⟩⟩
include B in
theorem pair_mem {d : Dom} (h : d ∈ places m) : pairOf b d ∈ pairs m := by
  obtain ⟨h1, h2⟩ := place_cells h
  have := B.bd _ h1
  have := B.bd _ h2
  rw [mem_pairs]
  show min _ _ ≤ max _ _ ∧ max _ _ < _
  omega
include B in
theorem invB : Inv (gs b) (places m) (goals m) where
  ne d _ := by simp [gs]
  sub d hd g hg := by
    simp only [gs, List.mem_cons, List.not_mem_nil, or_false] at hg
    rw [mem_goals]
    rcases hg with rfl | rfl | rfl
    · exact .inl ⟨rfl, (place_cells hd).1⟩
    · exact .inl ⟨rfl, (place_cells hd).2⟩
    · exact .inr ⟨rfl, pair_mem B hd⟩
def covers (m : Nat) (b : Cell → Nat) : List (List Dom) := allC (rowsC m b) (gs b) 45 (places m) (goals m)
include B in
theorem covers_ok : (∀ w ∈ covers m b, IsCov (gs b) (places m) (goals m) w) ∧ (∀ w, IsCov (gs b) (places m) (goals m) w → ∃ v ∈ covers m b, v.Perm w) ∧ (covers m b).Pairwise fun a b => ¬ a.Perm b :=
  allC_ok (rowsC_pick m b B.le) 45 _ _ (goals_le m B.le).1 (nodup_places m B.le) (fun _ h => h) (fun _ h => h) (invB B)
include B in
theorem covers_fuel (n : Nat) (h : 45 ≤ n) : allC (rowsC m b) (gs b) n (places m) (goals m) = covers m b :=
  allC_fuel (fun _ _ _ h => rowsC_left m b h) _ _ _ _ (Nat.le_trans (goals_le m B.le).1 h) (goals_le m B.le).1 (invB B)
/-! cells only -/
def cellG (d : Dom) : List Cell := [d.1, d.2]
def firstR (left : List Dom) (gls : List Cell) : List Dom := match gls with
  | [] => []
  | g :: _ => left.filter fun d => decide (g ∈ cellG d)
theorem firstR_pick : Pick cellG (places m) (cells m) firstR := by
  intro left gls hne hl hu hv hi
  cases gls with
  | nil => exact absurd rfl hne
  | cons g t => exact ⟨hl.filter _, g, List.mem_cons_self, fun d => by simp [firstR]⟩
theorem invC : Inv cellG (places m) (cells m) where
  ne d _ := by simp [cellG]
  sub d hd g hg := by
    simp only [cellG, List.mem_cons, List.not_mem_nil, or_false] at hg
    rcases hg with rfl | rfl
    · exact (place_cells hd).1
    · exact (place_cells hd).2
def tilesC (m : Nat) : List (List Dom) := allC firstR cellG 30 (places m) (cells m)
def tilings (m : Nat) : List (List Dom) := (tilesC m).map sortE
theorem tiles_ok (h : m ≤ 4) : (∀ w ∈ tilesC m, IsCov cellG (places m) (cells m) w) ∧ (∀ w, IsCov cellG (places m) (cells m) w → ∃ v ∈ tilesC m, v.Perm w) ∧ (tilesC m).Pairwise fun a b => ¬ a.Perm b :=
  allC_ok firstR_pick 30 _ _ (goals_le m h).2.1 (nodup_places m h) (fun _ h => h) (fun _ h => h) invC
theorem nodup_sorts {ws : List (List Dom)} (h : ws.Pairwise fun a b => ¬ a.Perm b) : (ws.map sortE).Nodup := by
  unfold List.Nodup
  rw [List.pairwise_map]
  exact h.imp fun q e => q (sortE_iff.mp e)
theorem nodup_pairs (h : m ≤ 4) : (pairs m).Nodup := by
  match m, h with
  | 0, _ => decide +kernel
  | 1, _ => decide +kernel
  | 2, _ => decide +kernel
  | 3, _ => decide +kernel
  | 4, _ => decide +kernel
theorem sorted_pairs (h : m ≤ 4) : (pairs m).Pairwise leE := by
  match m, h with
  | 0, _ => decide +kernel
  | 1, _ => decide +kernel
  | 2, _ => decide +kernel
  | 3, _ => decide +kernel
  | 4, _ => decide +kernel
theorem sorted_places (h : m ≤ 4) : (places m).Pairwise leE := by
  match m, h with
  | 0, _ => decide +kernel
  | 1, _ => decide +kernel
  | 2, _ => decide +kernel
  | 3, _ => decide +kernel
  | 4, _ => decide +kernel
theorem perm_of_mem {α : Type} [DecidableEq α] {xs ys : List α} (h : xs.Nodup) (i : ys.Nodup) (e : ∀ x, x ∈ xs ↔ x ∈ ys) : xs.Perm ys := (List.perm_ext_iff_of_nodup h i).mpr e
include B in
theorem cov_iff {w : List Dom} : IsCov (gs b) (places m) (goals m) w ↔ IsCov cellG (places m) (cells m) w ∧ (w.map (pairOf b)).Perm (pairs m) := by
  constructor
  · intro h
    refine ⟨⟨h.nod, h.sub, fun c hc => ?_, fun d hd e he ne g hg c => ?_⟩, perm_of_mem ?_ (nodup_pairs B.le) fun p => ?_⟩
    · obtain ⟨d, hd, q⟩ := h.all (.cell, c) (mem_goals.mpr (.inl ⟨rfl, hc⟩))
      refine ⟨d, hd, ?_⟩
      simpa [gs, cellG] using q
    · exact h.dis d hd e he ne (.cell, g) (by simpa [gs, cellG] using hg) (by simpa [gs, cellG] using c)
    · unfold List.Nodup
      rw [List.pairwise_map]
      refine List.Pairwise.imp_of_mem ?_ h.nod
      intro d e hd he ne c
      exact h.dis d hd e he ne (.pair, pairOf b d) (by simp [gs]) (by simp [gs, c])
    · rw [List.mem_map]
      constructor
      · rintro ⟨d, hd, rfl⟩
        exact pair_mem B (h.sub d hd)
      · intro hp
        obtain ⟨d, hd, q⟩ := h.all (.pair, p) (mem_goals.mpr (.inr ⟨rfl, hp⟩))
        exact ⟨d, hd, by simpa [gs, eq_comm] using q⟩
  · rintro ⟨h, p⟩
    have nd : (w.map (pairOf b)).Nodup := p.nodup_iff.mpr (nodup_pairs B.le)
    refine ⟨h.nod, h.sub, fun g hg => ?_, fun d hd e he ne g hg c => ?_⟩
    · rcases mem_goals.mp hg with ⟨h1, h2⟩ | ⟨h1, h2⟩
      · obtain ⟨d, hd, q⟩ := h.all g.2 h2
        obtain ⟨t, c⟩ := g
        simp only at h1
        subst h1
        exact ⟨d, hd, by simpa [gs, cellG] using q⟩
      · obtain ⟨t, c⟩ := g
        simp only at h1
        subst h1
        obtain ⟨d, hd, q⟩ := List.mem_map.mp (p.mem_iff.mpr h2)
        exact ⟨d, hd, by simp [gs]; exact q.symm⟩
    · obtain ⟨t, x⟩ := g
      cases t with
      | cell => exact h.dis d hd e he ne x (by simpa [gs, cellG] using hg) (by simpa [gs, cellG] using c)
      | pair =>
        have h1 : x = pairOf b d := by simpa [gs] using hg
        have h2 : x = pairOf b e := by simpa [gs] using c
        have inj : ∀ {w : List Dom}, (w.map (pairOf b)).Nodup → ∀ d ∈ w, ∀ e ∈ w, pairOf b d = pairOf b e → d = e := by
          intro w
          induction w with
          | nil => intro _ d hd; exact absurd hd (by simp)
          | cons a w ih =>
            intro nd d hd e he q
            rw [List.map_cons, List.nodup_cons] at nd
            rcases List.mem_cons.mp hd with rfl | hd' <;> rcases List.mem_cons.mp he with rfl | he'
            · rfl
            · exact absurd (List.mem_map.mpr ⟨e, he', q.symm⟩ : _ ∈ List.map (pairOf b) w) nd.1
            · exact absurd (List.mem_map.mpr ⟨d, hd', q⟩ : _ ∈ List.map (pairOf b) w) nd.1
            · exact ih nd.2 d hd' e he' q
        exact ne (inj nd d hd e he (h1.symm.trans h2))
def isGood (m : Nat) (b : Cell → Nat) (w : List Dom) : Bool := decide (sortE (w.map (pairOf b)) = pairs m)
def good (m : Nat) (b : Cell → Nat) : List (List Dom) := sortE ((tilings m).filter (isGood m b))
def layL (m : Nat) (b : Cell → Nat) : List (List Dom) := sortE ((covers m b).map sortE)
theorem isGood_iff (h : m ≤ 4) {w : List Dom} : isGood m b w = true ↔ (w.map (pairOf b)).Perm (pairs m) := by
  unfold isGood
  rw [decide_eq_true_eq]
  constructor
  · intro e
    have := sortE_perm (w.map (pairOf b))
    rw [e] at this
    exact this.symm
  · exact fun p => sortE_eq p (sorted_pairs h)
include B in
theorem layL_good : layL m b = good m b := by
  unfold layL good
  obtain ⟨c1, c2, c3⟩ := covers_ok B
  obtain ⟨t1, t2, t3⟩ := tiles_ok B.le
  refine sortE_congr (perm_of_mem (nodup_sorts c3) ((nodup_sorts t3).filter _) fun v => ?_)
  rw [List.mem_filter, List.mem_map]
  unfold tilings
  rw [List.mem_map]
  constructor
  · rintro ⟨w, hw, rfl⟩
    obtain ⟨h1, h2⟩ := (cov_iff B).mp (c1 w hw)
    obtain ⟨u, hu, p⟩ := t2 w h1
    exact ⟨⟨u, hu, sortE_congr p⟩, (isGood_iff B.le).mpr (((sortE_perm w).map _).trans h2)⟩
  · rintro ⟨⟨u, hu, rfl⟩, g⟩
    have g := (isGood_iff B.le).mp g
    obtain ⟨v, hv, p⟩ := c2 u ((cov_iff B).mpr ⟨t1 u hu, ((sortE_perm u).symm.map _).trans g⟩)
    exact ⟨v, hv, sortE_congr p⟩
include B in
/-- a right laying with a property that does not look at the order -/
theorem ex_good {P : List Dom → Prop} (hP : ∀ v w : List Dom, v.Perm w → P v → P w) : (∃ w, IsCov (gs b) (places m) (goals m) w ∧ P w) ↔ ∃ v ∈ good m b, P v := by
  rw [← layL_good B]
  obtain ⟨c1, c2, c3⟩ := covers_ok B
  unfold layL
  constructor
  · rintro ⟨w, h, p⟩
    obtain ⟨v, hv, q⟩ := c2 w h
    exact ⟨sortE v, mem_sortE.mpr (List.mem_map.mpr ⟨v, hv, rfl⟩), hP _ _ (q.symm.trans (sortE_perm v).symm) p⟩
  · rintro ⟨v, hv, p⟩
    obtain ⟨w, hw, rfl⟩ := List.mem_map.mp (mem_sortE.mp hv)
    exact ⟨w, c1 w hw, hP _ _ (sortE_perm w) p⟩
include B in
theorem good_cov {v : List Dom} (h : v ∈ good m b) : IsCov (gs b) (places m) (goals m) v ∧ sortE v = v := by
  rw [← layL_good B] at h
  obtain ⟨w, hw, rfl⟩ := List.mem_map.mp (mem_sortE.mp h)
  have c := (covers_ok B).1 w hw
  have p := sortE_perm w
  refine ⟨⟨p.nodup_iff.mpr c.nod, fun d hd => c.sub d (p.mem_iff.mp hd), fun g hg => ?_, fun d hd e he => c.dis d (p.mem_iff.mp hd) e (p.mem_iff.mp he)⟩, sortE_congr p⟩
  obtain ⟨d, hd, q⟩ := c.all g hg
  exact ⟨d, p.mem_iff.mpr hd, q⟩
end

/-! dominoes: what is told -/
section
variable (m : Nat) (b : Cell → Nat)
def mkD (m : Nat) (b : Cell → Nat) : SV := .ins c_Laying [fl_places, fl_goals, fl__goals, fl_having] [.fz (.lst ((places m).map enc)), .fz (.lst ((goals m).map enc)), .dct ((places m).map enc) ((places m).map fun d => .lst ((gs b d).map enc)), .dct ((goals m).map enc) ((goals m).map fun g => .lst ((having m b g).map enc))]
theorem so_dom (xs : List Dom) : sortOk (xs.map enc) = true := sortOk_prod (by decide) xs
theorem layings_step (Φ : Phi) {ws X : List (List Dom)} (hi : makeS (Φ n_Laying_init [.ins c_Laying [] [], fz (boardD m b)]) = .ok (mkD m b)) (ha : Φ n_Laying_all_of [fz (layD m b), fz (.lst ((places m).map enc)), fz (.lst ((goals m).map enc))] = .ok (oL (ws.map wayL)) []) (hX : X = ws.map sortE) (hn : ∀ w ∈ ws, w ≠ []) :
    runFn Φ i__layings [fz (boardD m b)] = .ok (oL ((sortE X).map enc)) [] := by
  have e : ws.map (fun w => D.tup ((sortE w).map enc)) = X.map enc := by rw [hX]; simp [enc_list]
  have so := so_dom
  have so2 : sortOk (X.map enc) = true := sortOk_tup (by decide) fun x hx => by
    rw [hX] at hx
    obtain ⟨w, hw, rfl⟩ := List.mem_map.mp hx
    have := hn w hw
    rw [enc_list]
    cases c : sortE w with
    | nil =>
      have := (sortE_perm w).length_eq
      rw [c] at this
      cases w with
      | nil => exact absurd rfl (hn [] hw)
      | cons => simp at this
    | cons => rfl
  simp only [n_Laying_init, n_Laying_all_of, c_Laying, layD, mkD, fl_places, fl_goals, fl__goals, fl_having] at hi ha
  simp [i__layings, b__layings, hi, ha, wayL, so, e, so2]
end

/-! dominoes: none, one -/
section
variable (m : Nat) (b : Cell → Nat)
theorem none_step (Φ : Phi) {x : D} (hi : makeS (Φ n_Laying_init [.ins c_Laying [] [], fz (boardD m b)]) = .ok (mkD m b)) (ha : Φ n_Laying_paper [fz (layD m b), fz (.lst ((places m).map enc)), fz (.lst ((goals m).map enc))] = .ok (fz x) []) :
    runFn Φ i__none [fz (boardD m b)] = .ok (fz (.tup [.str [110, 111, 110, 101], x])) [] := by
  simp only [n_Laying_init, n_Laying_paper, c_Laying, layD, mkD, fl_places, fl_goals, fl__goals, fl_having] at hi ha
  simp [i__none, b__none, hi, ha]
end

/-! dominoes: the law's own helpers -/
section
theorem law_places_M (n m : Nat) (h : m ≤ 4) : M prog (n + 1) n__law_places [fz (.int m)] = .ok (oL ((places m).map enc)) [] := by
  match m, h with
  | 0, _ => kernel_rfl
  | 1, _ => kernel_rfl
  | 2, _ => kernel_rfl
  | 3, _ => kernel_rfl
  | 4, _ => kernel_rfl
theorem law_pairs_M (n m : Nat) (h : m ≤ 4) : M prog (n + 1) n__law_pairs [fz (.int m)] = .ok (fz (.lst ((pairs m).map enc))) [] := by
  match m, h with
  | 0, _ => kernel_rfl
  | 1, _ => kernel_rfl
  | 2, _ => kernel_rfl
  | 3, _ => kernel_rfl
  | 4, _ => kernel_rfl
theorem law_pair_M (n m : Nat) (b : Cell → Nat) (d : Dom) (hd : d ∈ places m) : M prog (n + 1) n__law_pair [fz (boardD m b), fz (enc d)] = .ok (fz (enc (pairOf b d))) [] := by
  obtain ⟨⟨h1, h2⟩, h3, h4⟩ := places_lt hd
  obtain ⟨⟨r, c⟩, s, t⟩ := d
  rw [M_succ (h := rfl)]
  simp only at h1 h2 h3 h4
  have so := sorted2 (b (r, c)) (b (s, t))
  simp [i__law_pair, b__law_pair, boardD, enc_prod, enc_nat, h1, h2, h3, h4, -u_sortedS, so, pairOf, atI]
  omega
/-! tilings -/
def used (w : List Dom) : List Cell := w.map (·.1) ++ w.map (·.2)
def tstep (cs : List Cell) (w : List Dom) : List (List Dom) := match cs.filter (fun c => !decide (c ∈ used w)) with
  | [] => []
  | c :: _ => ([(c.1, c.2 + 1), (c.1 + 1, c.2)].filter fun o => decide (o ∈ cs) && !decide (o ∈ used w)).map fun o => w ++ [(c, o)]
def tilesB (m k : Nat) : List (List Dom) := (List.range k).foldl (fun ws _ => ws.flatMap (tstep (cells m))) [[]]
theorem tilesB_succ (m k : Nat) : tilesB m (k + 1) = (tilesB m k).flatMap (tstep (cells m)) := by
  unfold tilesB
  rw [List.range_succ, List.foldl_append]
  rfl
theorem tstep_len {cs : List Cell} {w v : List Dom} (h : v ∈ tstep cs w) : v.length = w.length + 1 := by
  unfold tstep at h
  split at h
  · simp at h
  · obtain ⟨o, _, rfl⟩ := List.mem_map.mp h
    simp
theorem tilesB_len (m : Nat) : ∀ (k : Nat), ∀ w ∈ tilesB m k, w.length = k
  | 0, w, h => by simp [tilesB] at h; subst h; rfl
  | k + 1, w, h => by
    rw [tilesB_succ] at h
    obtain ⟨v, hv, hw⟩ := List.mem_flatMap.mp h
    rw [tstep_len hw, tilesB_len m k v hv]
theorem flatMap_len {α β : Type} (f : α → List β) (c : Nat) (h : ∀ x, (f x).length ≤ c) : ∀ xs : List α, (xs.flatMap f).length ≤ c * xs.length
  | [] => by simp
  | x :: xs => by
    rw [List.flatMap_cons, List.length_append, List.length_cons]
    have := h x
    have := flatMap_len f c h xs
    rw [Nat.mul_succ]
    omega
theorem tstep_two (cs : List Cell) (w : List Dom) : (tstep cs w).length ≤ 2 := by
  unfold tstep
  split
  · simp
  · rw [List.length_map]
    exact Nat.le_trans (List.length_filter_le _ _) (by simp)
theorem tilesB_num (m : Nat) : ∀ k, (tilesB m k).length ≤ 2 ^ k
  | 0 => by simp [tilesB]
  | k + 1 => by
    rw [tilesB_succ]
    have := flatMap_len (tstep (cells m)) 2 (tstep_two _) (tilesB m k)
    have := tilesB_num m k
    rw [Nat.pow_succ]
    omega
theorem loopF_nil {f : D → Env → RS} {ρ : Env} : loopF f [] ρ = .ok (.nx ρ) := (rfl)
theorem loopF_cons {f : D → Env → RS} {x : D} {xs : List D} {ρ : Env} : loopF f (x :: xs) ρ = (match f x ρ with
    | .ok (.nx ρ') => loopF f xs ρ'
    | .ok (.ct ρ') => loopF f xs ρ'
    | .ok (.bk ρ') => .ok (.nx ρ')
    | r => r) := (rfl)
def bT1 : List S := [.asg (.nm 8) (.bin .add (.comp (.idx (.var 12) (.lit (.int 0))) (.nm 12) (.seq (.var 7)) [] [12]) (.comp (.idx (.var 12) (.lit (.int 1))) (.nm 12) (.seq (.var 7)) [] [12])), .frz [8], .asg (.nm 9) (.idx (.comp (.var 13) (.nm 13) (.seq (.var 1)) [(.cmp .nin (.var 13) (.var 8))] [13]) (.lit (.int 0))), .frz [9], .for_ (.nm 10) (.seq (.lst [(.tup [(.idx (.var 9) (.lit (.int 0))), (.bin .add (.idx (.var 9) (.lit (.int 1))) (.lit (.int 1)))]), (.tup [(.bin .add (.idx (.var 9) (.lit (.int 0))) (.lit (.int 1))), (.idx (.var 9) (.lit (.int 1)))])])) [.if_ (.and (.cmp .in_ (.var 10) (.var 1)) (.cmp .nin (.var 10) (.var 8))) [.app (.v 6) (.bin .add (.var 7) (.tup [(.tup [(.var 9), (.var 10)])]))] []]]
theorem tin_ok (Φ : Phi) (cs : List Cell) (w : List Dom) (acc : List (List Dom)) (x0 x2 x3 x4 x5 a b c d e f : Option SV) (hne : cs.filter (fun c => !decide (c ∈ used w)) ≠ []) (hl : acc.length < 1000000) (hw : w.length < 1000) : ∃ a' b' c' , exs Φ bT1 [x0, some (fz (.lst (cs.map enc))), x2, x3, x4, x5, some (oL (acc.map enc)), some (fz (enc w)), a, b, c, d, e, f] = .ok (.nx [x0, some (fz (.lst (cs.map enc))), x2, x3, x4, x5, some (oL ((acc ++ tstep cs w).map enc)), some (fz (enc w)), a', b', c', d, e, f]) := by
  obtain ⟨c0, t, hc⟩ : ∃ c0 t, cs.filter (fun c => !decide (c ∈ used w)) = c0 :: t := by
    cases q : cs.filter (fun c => !decide (c ∈ used w)) with
    | nil => exact absurd q hne
    | cons c0 t => exact ⟨c0, t, rfl⟩
  obtain ⟨r, s⟩ := c0
  refine ⟨some (fz (.lst ((used w).map enc))), some (fz (enc (r, s))), some (fz (enc (r + 1, s))), ?_⟩
  have p1 : ∀ x : Cell, plain 60 (enc x) = true := plE20 (by decide)
  have p2 := plains_map (α := Cell) 60 (by decide)
  have e1 : D.tup [D.int r, D.int (s + 1)] = enc (r, s + 1) := rfl
  have e2 : D.tup [D.int (r + 1), D.int s] = enc (r + 1, s) := rfl
  have hu : (w.map fun x => (enc x.1 : D)) ++ w.map (fun x => enc x.2) = (used w).map enc := by simp [used]
  have hw2 : (used w).length ≤ 16777216 := by simp [used]; omega
  have hw3 : w.length + 1 ≤ 16777216 := by omega
  have hl1 : acc.length < 16777216 := by omega
  have hl2 : acc.length + 1 < 16777216 := by omega
  unfold tstep
  rw [hc]
  by_cases q1 : (r, s + 1) ∈ cs <;> by_cases q2 : (r, s + 1) ∈ used w <;> by_cases q3 : (r + 1, s) ∈ cs <;> by_cases q4 : (r + 1, s) ∈ used w <;>
    simp [bT1, enc_list, hu, hw2, hw3, hl1, hl2, p1, p2, hc, loopF_cons, loopF_nil, e1, e2, enc_nat, q1, q2, q3, q4] <;> first | rfl | exact ⟨rfl, rfl⟩
end

section
def bT2 : List S := [.asg (.nm 6) (.lst []), .for_ (.nm 7) (.seq (.var 4)) bT1, .frz [6], .asg (.nm 4) (.var 6), .frz [4]]
theorem til_body : b__law_tilings = b__law_tilings.take 5 ++ [.for_ (.nm 3) (.rng [(.bin .fdiv (.bi .len [(.var 1)]) (.lit (.int 2)))]) bT2, .ret (.comp (.bi .tuple [(.bi .sorted [(.var 7)])]) (.nm 7) (.seq (.var 4)) [] [7])] := rfl
theorem til_pre (Φ : Phi) (m : Nat) (h : m ≤ 4) : exs Φ (b__law_tilings.take 5) [some (fz (.int m)), none, none, none, none, none, none, none, none, none, none, none, none, none] = .ok (.nx [some (fz (.int m)), some (fz (.lst ((cells m).map enc))), some (fz (.int m)), none, some (fz (.lst [.tup []])), some (fz (.lst [])), none, none, none, none, none, none, none, none]) := by
  match m, h with
  | 0, _ => kernel_rfl
  | 1, _ => kernel_rfl
  | 2, _ => kernel_rfl
  | 3, _ => kernel_rfl
  | 4, _ => kernel_rfl
theorem til_it (Φ : Phi) (m : Nat) (h : m ≤ 4) (x y : Option SV) : evif Φ (.rng [(.bin .fdiv (.bi .len [(.var 1)]) (.lit (.int 2)))]) [some (fz (.int m)), some (fz (.lst ((cells m).map enc))), some (fz (.int m)), none, x, y, none, none, none, none, none, none, none, none] = .ok ((List.range ((cells m).length / 2)).map enc) := by
  match m, h with
  | 0, _ => kernel_rfl
  | 1, _ => kernel_rfl
  | 2, _ => kernel_rfl
  | 3, _ => kernel_rfl
  | 4, _ => kernel_rfl
theorem nodup_cells (m : Nat) (h : m ≤ 4) : (cells m).Nodup := by
  match m, h with
  | 0, _ => decide +kernel
  | 1, _ => decide +kernel
  | 2, _ => decide +kernel
  | 3, _ => decide +kernel
  | 4, _ => decide +kernel
theorem free_ne {m : Nat} (h : m ≤ 4) {w : List Dom} (hw : 2 * w.length < (cells m).length) : (cells m).filter (fun c => !decide (c ∈ used w)) ≠ [] := by
  intro e
  have : ∀ c ∈ cells m, c ∈ used w := by
    intro c hc
    rw [List.filter_eq_nil_iff] at e
    simpa using e c hc
  have := Cov.nodup_len (nodup_cells m h) this
  simp [used] at this
  omega
theorem til_turn (Φ : Phi) (m : Nat) (h : m ≤ 4) (ws : List (List Dom)) (x0 x2 x3 x5 x6 x7 a b c d e f : Option SV) (hw : ∀ w ∈ ws, 2 * w.length < (cells m).length) (hl : ws.length < 400000) : ∃ x6' x7' a' b' c', exs Φ bT2 [x0, some (fz (.lst ((cells m).map enc))), x2, x3, some (fz (.lst (ws.map enc))), x5, x6, x7, a, b, c, d, e, f] = .ok (.nx [x0, some (fz (.lst ((cells m).map enc))), x2, x3, some (fz (.lst ((ws.flatMap (tstep (cells m))).map enc))), x5, x6', x7', a', b', c', d, e, f]) := by
  let P : List (List Dom) → Env → Prop := fun pre ρ => ∃ y a b c, ρ = [x0, some (fz (.lst ((cells m).map enc))), x2, x3, some (fz (.lst (ws.map enc))), x5, some (oL ((pre.flatMap (tstep (cells m))).map enc)), y, a, b, c, d, e, f]
  obtain ⟨ρ, e, y, a1, b1, c1, rfl⟩ := loopF_run (f := fun x ρ1 => exs Φ bT1 (ρ1.set 7 (some (fz x)))) (g := (enc : List Dom → D)) (full := ws) P (ρ := [x0, some (fz (.lst ((cells m).map enc))), x2, x3, some (fz (.lst (ws.map enc))), x5, some (oL []), x7, a, b, c, d, e, f]) ⟨_, _, _, _, rfl⟩ (by
    rintro pre x post ρ hf ⟨y, a, b, c, rfl⟩
    have hx : x ∈ ws := by rw [hf]; simp
    have h1 := hw x hx
    have hc := (goals_le m h).2.1
    have hp : pre.length < 400000 := by
      have := congrArg List.length hf
      simp at this
      omega
    have := flatMap_len (tstep (cells m)) 2 (tstep_two _) pre
    obtain ⟨a', b', c', q⟩ := tin_ok Φ (cells m) x (pre.flatMap (tstep (cells m))) x0 x2 x3 (some (fz (.lst (ws.map enc)))) x5 a b c d e f (free_ne h h1) (by omega) (by omega)
    refine ⟨_, q, some (fz (enc x)), a', b', c', ?_⟩
    rw [List.flatMap_append]
    simp)
  refine ⟨some (fz (.lst ((ws.flatMap (tstep (cells m))).map enc))), y, a1, b1, c1, ?_⟩
  simp [bT2, e]
theorem til_run (Φ : Phi) (m : Nat) (h : m ≤ 4) : runFn Φ i__law_tilings [fz (.int m)] = .ok (oL (((tilesB m ((cells m).length / 2)).map sortE).map enc)) [] := by
  let P : List Nat → Env → Prop := fun pre ρ => ∃ x3 x6 x7 a b c, ρ = [some (fz (.int m)), some (fz (.lst ((cells m).map enc))), some (fz (.int m)), x3, some (fz (.lst ((tilesB m pre.length).map enc))), some (fz (.lst [])), x6, x7, a, b, c, none, none, none]
  obtain ⟨ρ, e, x3, x6, x7, a, b, c, rfl⟩ := loopF_run (f := fun x ρ1 => exs Φ bT2 (ρ1.set 3 (some (fz x)))) (g := (enc : Nat → D)) (full := List.range ((cells m).length / 2)) P (ρ := [some (fz (.int m)), some (fz (.lst ((cells m).map enc))), some (fz (.int m)), none, some (fz (.lst [.tup []])), some (fz (.lst [])), none, none, none, none, none, none, none, none]) ⟨none, none, none, none, none, none, rfl⟩ (by
    rintro pre x post ρ hf ⟨x3, x6, x7, a, b, c, rfl⟩
    have hp : pre.length < (cells m).length / 2 := by
      have := congrArg List.length hf
      simp at this
      omega
    have hc := (goals_le m h).2.1
    have h15 : pre.length ≤ 15 := by omega
    have hn := tilesB_num m pre.length
    have : 2 ^ pre.length ≤ 2 ^ 15 := Nat.pow_le_pow_right (by decide) h15
    have l2 : (2 : Nat) ^ 15 = 32768 := by decide
    obtain ⟨x6', x7', a', b', c', q⟩ := til_turn Φ m h (tilesB m pre.length) (some (fz (.int m))) (some (fz (.int m))) (some (fz (enc x))) (some (fz (.lst []))) x6 x7 a b c none none none (fun w hw => by rw [tilesB_len m _ w hw]; omega) (by omega)
    refine ⟨_, q, some (fz (enc x)), x6', x7', a', b', c', ?_⟩
    rw [List.length_append]
    rw [show pre.length + [x].length = pre.length + 1 from rfl, tilesB_succ])
  have so := so_dom
  have hp := til_pre Φ m h
  have hi := til_it Φ m h (some (fz (.lst [.tup []]))) (some (fz (.lst [])))
  refine runFn_rt (ρ0 := [some (fz (.int m)), none, none, none, none, none, none, none, none, none, none, none, none, none]) (ss := []) (ρ := ?r) rfl rfl rfl ?h rfl
  case h =>
    show exs Φ b__law_tilings _ = _
    rw [til_body, exs_append, hp, RS.seq_nx, exs_cons, ex_for, hi, RS.of_ok]
    simp only [bindTg_nm]
    rw [e]
    rw [List.length_range]
    simp [so, enc_list]
    rfl
end

/-! the draws -/
section
theorem enc_int (i : Int) : enc i = D.int i := rfl
def bD1 : List S := [.if_ (.cmp .gt (.var 6) (.lit (.int 0))) [.app (.v 2) (.bin .mod (.bi .int [(.var 6)]) (.lit (.int 1009))), .asg (.nm 6) (.bin .fdiv (.var 6) (.lit (.int 1009)))] []]
def bD2 : List S := [.asg (.nm 6) (.bi .abs [(.var 4)]), .asg (.nm 3) (.bin .mod (.bi .int [(.bin .add (.bin .add (.bin .mul (.var 3) (.lit (.int 48271))) (.var 6)) (.lit (.int 11)))]) (.lit (.int 2147483647))), .if_ (.cmp .ge (.var 6) (.bin .pow (.lit (.int 10)) (.lit (.int 18)))) [.for_ (.nm 5) (.rng [(.lit (.int 60))]) bD1] [.app (.v 2) (.bin .mod (.bin .fdiv (.bi .int [(.bin .add (.bin .mul (.var 3) (.lit (.int 16807))) (.lit (.int 5)))]) (.lit (.int 3))) (.lit (.int 65521)))]]
def bD3 : List S := [.if_ (.cmp .lt (.bi .len [(.var 2)]) (.var 1)) [.asg (.nm 3) (.bin .mod (.bi .int [(.bin .add (.bin .add (.bin .mul (.var 3) (.lit (.int 69621))) (.var 5)) (.lit (.int 1)))]) (.lit (.int 2147483647))), .app (.v 2) (.bin .mod (.bin .fdiv (.bi .int [(.var 3)]) (.lit (.int 7))) (.lit (.int 65521)))] []]
theorem draws_body : b__law_draws = [.asg (.nm 2) (.lst []), .asg (.nm 3) (.lit (.int 7)), .for_ (.nm 4) (.seq (.slc (.var 0) none (some (.lit (.int 63))))) bD2, .for_ (.nm 5) (.rng [(.var 1)]) bD3, .ret (.slc (.var 2) none (some (.var 1)))] := rfl
theorem draws_in (Φ : Phi) (x0 x1 x3 x4 x5 : Option SV) (ds : List Int) (i : Int) (hl : ds.length < 1000000) : ∃ (es : List Int) (j : Int) (y : Option SV), es.length ≤ ds.length + 60 ∧ loopF (fun x ρ1 => exs Φ bD1 (ρ1.set 5 (some (fz x)))) ((List.range 60).map enc) [x0, x1, some (oL (ds.map enc)), x3, x4, x5, some (fz (.int i))] = .ok (.nx [x0, x1, some (oL (es.map enc)), x3, x4, y, some (fz (.int j))]) := by
  let P : List Nat → Env → Prop := fun pre ρ => ∃ (es : List Int) (j : Int) (y : Option SV), es.length ≤ ds.length + pre.length ∧ ρ = [x0, x1, some (oL (es.map enc)), x3, x4, y, some (fz (.int j))]
  obtain ⟨ρ, e, es, j, y, h, rfl⟩ := loopF_run (f := fun x ρ1 => exs Φ bD1 (ρ1.set 5 (some (fz x)))) (g := (enc : Nat → D)) (full := List.range 60) P (ρ := [x0, x1, some (oL (ds.map enc)), x3, x4, x5, some (fz (.int i))]) ⟨ds, i, x5, by simp, rfl⟩ (by
    rintro pre x post ρ hf ⟨es, j, y, h, rfl⟩
    have hp : pre.length ≤ 60 := by
      have := congrArg List.length hf
      simp at this
      omega
    have hs : es.length < 16777216 := by omega
    by_cases c : 0 < j
    · refine ⟨_, ?_, es ++ [j % 1009], j / 1009, some (fz (enc x)), by simp; omega, rfl⟩
      simp [bD1, c, hs, enc_int]
    · refine ⟨_, ?_, es, j, some (fz (enc x)), by simp; omega, rfl⟩
      simp [bD1, c])
  exact ⟨es, j, y, by simpa using h, e⟩
theorem draws_turn (Φ : Phi) (x0 x1 x5 x6 : Option SV) (ds : List Int) (seed i : Int) (hl : ds.length < 1000000) : ∃ (es : List Int) (s : Int) (y z : Option SV), es.length ≤ ds.length + 60 ∧ exs Φ bD2 [x0, x1, some (oL (ds.map enc)), some (fz (.int seed)), some (fz (.int i)), x5, x6] = .ok (.nx [x0, x1, some (oL (es.map enc)), some (fz (.int s)), some (fz (.int i)), y, z]) := by
  have hs : ds.length < 16777216 := by omega
  have a1 : absS (fz (.int i)) = some (fz (.int (if i < 0 then -i else i))) := rfl
  generalize (if i < 0 then -i else i) = k at a1
  have m1 : small64 48271 = true := by decide
  have m2 : small64 16807 = true := by decide
  by_cases c : (1000000000000000000 : Int) ≤ k
  · obtain ⟨es, j, y, h, e⟩ := draws_in Φ x0 x1 (some (fz (.int ((seed * 48271 + k + 11) % 2147483647)))) (some (fz (.int i))) x5 ds k hl
    refine ⟨es, (seed * 48271 + k + 11) % 2147483647, y, some (fz (.int j)), h, ?_⟩
    have r : rngS [.int 60] = some ((List.range 60).map enc) := by
      show some (rngD 0 60) = _
      rw [rngD_nat]
    simp [bD2, a1, m1, m2, c, r, e]
  · refine ⟨ds ++ [(((seed * 48271 + k + 11) % 2147483647 * 16807 + 5) / 3) % 65521], (seed * 48271 + k + 11) % 2147483647, x5, some (fz (.int k)), by simp, ?_⟩
    simp [bD2, a1, m1, m2, c, hs, enc_int]
theorem draws_run (Φ : Phi) (ns : List Int) (hn : ns.length ≤ 63) : ∃ ds : List Int, ds.length = 60 ∧ runFn Φ i__law_draws [fz (.scr ns), fz (.int 60)] = .ok (oL (ds.map enc)) [] := by
  let P : List Int → Env → Prop := fun pre ρ => ∃ (ds : List Int) (s : Int) (x y z : Option SV), ds.length ≤ 60 * pre.length ∧ ρ = [some (fz (.scr ns)), some (fz (.int 60)), some (oL (ds.map enc)), some (fz (.int s)), x, y, z]
  obtain ⟨ρ, e, ds, s, x, y, z, h, rfl⟩ := loopF_run (f := fun x ρ1 => exs Φ bD2 (ρ1.set 4 (some (fz x)))) (g := (enc : Int → D)) (full := ns) P (ρ := [some (fz (.scr ns)), some (fz (.int 60)), some (oL []), some (fz (.int 7)), none, none, none]) ⟨[], 7, none, none, none, by simp, rfl⟩ (by
    rintro pre x post ρ hf ⟨ds, s, a, b, c, h, rfl⟩
    have hp : pre.length ≤ 63 := by
      have := congrArg List.length hf
      simp at this
      omega
    obtain ⟨es, s', y, z, h', q⟩ := draws_turn Φ (some (fz (.scr ns))) (some (fz (.int 60))) b c ds s x (by omega)
    refine ⟨_, q, es, s', _, y, z, ?_, rfl⟩
    simp
    omega)
  let Q : List Nat → Env → Prop := fun pre ρ => ∃ (es : List Int) (s : Int) (y : Option SV), (pre.length ≤ es.length ∨ 60 ≤ es.length) ∧ es.length ≤ 100000 ∧ ρ = [some (fz (.scr ns)), some (fz (.int 60)), some (oL (es.map enc)), some (fz (.int s)), x, y, z]
  obtain ⟨ρ, e2, es, s2, y2, h1, h2, rfl⟩ := loopF_run (f := fun x ρ1 => exs Φ bD3 (ρ1.set 5 (some (fz x)))) (g := (enc : Nat → D)) (full := List.range 60) Q (ρ := [some (fz (.scr ns)), some (fz (.int 60)), some (oL (ds.map enc)), some (fz (.int s)), x, y, z]) ⟨ds, s, y, .inl (by simp), by omega, rfl⟩ (by
    rintro pre k post ρ hf ⟨es, t, a, h1, h2, rfl⟩
    have hp : pre.length < 60 := by
      have := congrArg List.length hf
      simp at this
      omega
    have m1 : small64 69621 = true := by decide
    by_cases c : es.length < 60
    · have c' : (es.length : Int) < 60 := by omega
      have hs : es.length < 16777216 := by omega
      refine ⟨_, ?_, es ++ [((t * 69621 + k + 1) % 2147483647) / 7 % 65521], (t * 69621 + k + 1) % 2147483647, some (fz (enc k)), by simp; omega, by simp; omega, rfl⟩
      simp [bD3, c', hs, m1, enc_int, enc_nat]
    · have c' : ¬ (es.length : Int) < 60 := by omega
      refine ⟨_, ?_, es, t, some (fz (enc k)), .inr (by omega), h2, rfl⟩
      simp [bD3, c'])
  have h3 : 60 ≤ es.length := by
    rcases h1 with h1 | h1
    · simpa using h1
    · exact h1
  have r : rngS [.int 60] = some ((List.range 60).map enc) := by
    show some (rngD 0 60) = _
    rw [rngD_nat]
  refine ⟨es.take 60, by simp; omega, ?_⟩
  have c1 : cut (ns.map D.int) none (some 63) = ns.map enc := by
    unfold cut sIx
    simp
    rw [List.take_of_length_le (by simp; omega)]
    rfl
  have c2 : cutS (fz (.scr ns)) none (some 63) = some (oL (ns.map enc)) := by
    show some (oL (cut (ns.map D.int) none (some 63))) = _
    rw [c1]
  have c3 : cutS (oL (es.map (enc : Int → D))) none (some 60) = some (oL ((es.take 60).map enc)) := by
    show some (oL (cut (es.map (enc : Int → D)) none (some 60))) = _
    unfold cut sIx
    simp
  refine runFn_rt (ρ0 := [some (fz (.scr ns)), some (fz (.int 60)), none, none, none, none, none]) (ss := []) (ρ := ?r) rfl rfl rfl ?h rfl
  case h =>
    show exs Φ b__law_draws _ = _
    rw [draws_body]
    simp [c2, e, r, e2, c3]
    rfl
end

/-! boards that are drawn -/
section
theorem atI_mod {α : Type} (f : α → D) {xs : List α} (h : xs ≠ []) (i : Int) : ∃ p ∈ xs, atI (xs.map f) (i % (xs.length : Int)) = some (f p) := by
  have hp : 0 < xs.length := List.length_pos_iff.mpr h
  have h1 : 0 ≤ i % (xs.length : Int) := Int.emod_nonneg _ (by omega)
  have h2 : i % (xs.length : Int) < xs.length := Int.emod_lt_of_pos _ (by omega)
  have h3 : (i % (xs.length : Int)).toNat < xs.length := by omega
  refine ⟨xs[(i % (xs.length : Int)).toNat], List.getElem_mem h3, ?_⟩
  unfold atI
  rw [if_pos h1]
  simp [h3]
theorem range_split {n x : Nat} {pre post : List Nat} (h : List.range n = pre ++ x :: post) : x = pre.length ∧ pre.length < n := by
  have h1 : (List.range n)[pre.length]? = some x := by rw [h]; simp
  rw [List.getElem?_range] at h1
  · simp at h1
    have := congrArg List.length h
    simp at this
    omega
  · have := congrArg List.length h
    simp at this
    omega
def flat (w : List Dom) : List Cell := w.flatMap fun d => [d.1, d.2]
structure TilOk (m : Nat) : Prop where
  le : m ≤ 4
  eq : tilesB m ((cells m).length / 2) = tilesC m
  perm : ∀ w ∈ tilesC m, (flat w).isPerm (cells m) = true
  ne : tilesC m ≠ []
  num : (tilesC m).length ≤ 2000
  tw : (pairs m).length * 2 = (cells m).length
theorem til_perm {m : Nat} (T : TilOk m) {w : List Dom} (h : w ∈ tilings m) : (flat w).Perm (cells m) := by
  obtain ⟨u, hu, rfl⟩ := List.mem_map.mp h
  exact ((sortE_perm u).flatMap_right _).trans (List.isPerm_iff.mp (T.perm u hu))
theorem flat_len (w : List Dom) : (flat w).length = 2 * w.length := by
  induction w with
  | nil => rfl
  | cons d w ih =>
    show ([d.1, d.2] ++ flat w).length = _
    rw [List.length_append, ih]
    simp
    omega
theorem til_len {m : Nat} (T : TilOk m) {w : List Dom} (h : w ∈ tilings m) : w.length = (pairs m).length := by
  have := (til_perm T h).length_eq
  rw [flat_len] at this
  have := T.tw
  omega
/-- a store in a dict of numbers -/
theorem putD {x : Cell} {ks : List Cell} (f : Cell → Nat) (v : Nat) (h : ks.Nodup) : putVs (enc x) (D.int v) (ks.map enc) (ks.map fun c => D.int (f c)) = (addK ks x).map fun c => D.int ((upd f x v c : Nat)) := by
  rw [putVs_map (fun c => D.int (f c)) x (D.int v) h]
  refine List.map_congr_left fun c _ => ?_
  unfold upd
  split <;> rfl
theorem kt_cell (d : Cell) : isKT (enc d) = true := isKT_prod (by decide) (by decide) d
def numD (ks : List Cell) (f : Cell → Nat) : SV := .o (.dct (ks.map enc) (ks.map fun c => D.int (f c)))
def bB4 : List S := [.asg (.nm 9) (.idx (.var 7) (.bin .mod (.bin .fdiv (.bi .int [(.idx (.var 0) (.bin .add (.lit (.int 1)) (.bin .mod (.var 3) (.lit (.int 10)))))]) (.bin .add (.lit (.int 1)) (.bin .fdiv (.var 3) (.lit (.int 10))))) (.bi .len [(.var 7)]))), .frz [9], .asg (.nm 7) (.comp (.var 12) (.nm 12) (.seq (.var 7)) [(.cmp .ne (.var 12) (.var 9))] [12]), .frz [7], .asg (.nm 10) (.bin .mod (.bin .fdiv (.bi .int [(.idx (.var 0) (.lit (.int 11)))]) (.bin .add (.var 3) (.lit (.int 1)))) (.lit (.int 2))), .parz [(.sub (.v 8) (.idx (.idx (.var 2) (.var 3)) (.lit (.int 0)))), (.sub (.v 8) (.idx (.idx (.var 2) (.var 3)) (.lit (.int 1))))] [(.idx (.var 9) (.var 10)), (.idx (.var 9) (.bin .sub (.lit (.int 1)) (.var 10)))]]
theorem idx_turn (p : Cell) (x : Int) (j : Int) (hj : 0 < j) : ∃ u v : Nat, (u = p.1 ∧ v = p.2 ∨ u = p.2 ∧ v = p.1) ∧ idxS (fz (enc p)) (.int (x / j % 2)) = some (fz (.int u)) ∧ idxS (fz (enc p)) (.int (1 - x / j % 2)) = some (fz (.int v)) := by
  rcases (show x / j % 2 = 0 ∨ x / j % 2 = 1 by omega) with e | e <;> rw [e]
  · exact ⟨p.1, p.2, .inl ⟨rfl, rfl⟩, rfl, rfl⟩
  · exact ⟨p.2, p.1, .inr ⟨rfl, rfl⟩, rfl, rfl⟩
theorem board_turn (Φ : Phi) (ds : List Int) (hd : ds.length = 20) (w : List Dom) (k : Nat) (d : Dom) (hk : w[k]? = some d) (left : List Cell) (hl : left ≠ []) (ks : List Cell) (f : Cell → Nat) (hn : ks.Nodup) (h1 : d.1 ∉ ks) (h2 : d.2 ∉ ks) (h3 : d.1 ≠ d.2) (hz : ks.length < 1000) (hk9 : k < 1000) (x1 x4 x5 x6 x9 x10 x11 x12 x13 x14 : Option SV) : ∃ (p : Cell) (u v : Nat) (y z : Option SV), p ∈ left ∧ (u = p.1 ∧ v = p.2 ∨ u = p.2 ∧ v = p.1) ∧ exs Φ bB4 [some (fz (.lst (ds.map enc))), x1, some (fz (enc w)), some (fz (.int k)), x4, x5, x6, some (fz (.lst (left.map enc))), some (numD ks f), x9, x10, x11, x12, x13, x14] = .ok (.nx [some (fz (.lst (ds.map enc))), x1, some (fz (enc w)), some (fz (.int k)), x4, x5, x6, some (fz (.lst ((left.filter fun o => !decide (o = p)).map enc))), some (numD (ks ++ [d.1, d.2]) (upd (upd f d.1 u) d.2 v)), y, z, x11, x12, x13, x14]) := by
  obtain ⟨a, ha⟩ : ∃ a, ds[1 + k % 10]? = some a := ⟨ds[1 + k % 10], by rw [List.getElem?_eq_getElem]⟩
  obtain ⟨c, hc⟩ : ∃ a, ds[11]? = some a := ⟨ds[11], by rw [List.getElem?_eq_getElem]⟩
  have e1 : (1 : Int) + (k : Int) % 10 = ((1 + k % 10 : Nat) : Int) := by omega
  have q0 : atI (ds.map (enc : Int → D)) (1 + (k : Int) % 10) = some (D.int a) := by
    rw [e1, atI_nat]
    simp [ha, enc_int]
  have e2 : (0 : Int) < 1 + (k : Int) / 10 ∧ 1 + (k : Int) / 10 < 1073741824 := by omega
  have e3 : (0 : Int) < (k : Int) + 1 ∧ (k : Int) + 1 < 1073741824 := by omega
  have e4 : 0 < left.length := List.length_pos_iff.mpr hl
  obtain ⟨p, hp, q⟩ := atI_mod (fun c : Cell => enc c) hl (a / (1 + (k : Int) / 10))
  obtain ⟨u, v, huv, i1, i2⟩ := idx_turn p c ((k : Int) + 1) (by omega)
  have p1 : ∀ x : Cell, plain 60 (enc x) = true := plE20 (by decide)
  have kk := keyOk_of kt_cell
  have pk1 := putKs_new h1
  have hn2 : (ks ++ [d.1]).Nodup := by
    rw [List.nodup_append]
    exact ⟨hn, by simp, fun a ha b hb => by simp at hb; subst hb; exact fun e => h1 (e ▸ ha)⟩
  have h22 : d.2 ∉ ks ++ [d.1] := by simp; exact ⟨h2, fun e => h3 e.symm⟩
  have pk2 := putKs_new h22
  have a1 : addK ks d.1 = ks ++ [d.1] := if_neg h1
  have a2 : addK (ks ++ [d.1]) d.2 = ks ++ [d.1] ++ [d.2] := if_neg h22
  have pv1 := putD (x := d.1) f u hn
  have pv2 := putD (x := d.2) (upd f d.1 u) v hn2
  rw [a1] at pv1
  rw [a2] at pv2
  have z1 : ks.length < 16777216 := by omega
  have z2 : ks.length + 1 < 16777216 := by omega
  refine ⟨p, u, v, some (fz (enc p)), some (fz (.int (c / ((k : Int) + 1) % 2))), hp, huv, ?_⟩
  simp [bB4, numD, enc_list, q0, hc, e2, e3, e4, q, i1, i2, p1, hk, kk, -u_putKs_map, -List.map_append, pk1, pv1, z1, z2, enc_int]
  exact ⟨by rw [pk2, List.append_assoc]; rfl, by rw [pv2, List.append_assoc]; rfl⟩
end

section
def bB5 : List S := [.asg (.sub (.v 8) (.idx (.bi .sorted [(.var 8)]) (.var 3))) (.bin .mod (.bin .fdiv (.bi .int [(.idx (.var 0) (.bin .add (.lit (.int 1)) (.bin .mod (.var 3) (.lit (.int 14)))))]) (.bin .add (.lit (.int 2)) (.bin .fdiv (.var 3) (.lit (.int 14))))) (.bin .add (.var 1) (.lit (.int 1))))]
def bBk0 : List S := [.asg (.nm 11) (.idx (.bi .sorted [(.var 8)]) (.bin .mod (.bi .int [(.idx (.var 0) (.lit (.int 13)))]) (.bi .len [(.var 8)]))), .frz [11], .asg (.sub (.v 8) (.var 11)) (.bin .mod (.bi .int [(.idx (.var 0) (.lit (.int 14)))]) (.bin .add (.var 1) (.lit (.int 1))))]
theorem board_body : b__law_board = [.par [5, 6] [(.call n__law_tilings [(.var 1)]), (.call n__law_pairs [(.var 1)])], .frz [5, 6], .asg (.nm 2) (.idx (.var 5) (.bin .mod (.bi .int [(.idx (.var 0) (.lit (.int 0)))]) (.bi .len [(.var 5)]))), .frz [2], .par [7, 8] [(.bi .list [(.var 6)]), (.dnew)], .frz [7], .for_ (.nm 3) (.rng [(.bi .len [(.var 2)])]) bB4, .asg (.nm 4) (.bin .mod (.bi .int [(.idx (.var 0) (.lit (.int 12)))]) (.lit (.int 4))), .if_ (.cmp .eq (.var 4) (.lit (.int 0))) bBk0 [], .if_ (.cmp .eq (.var 4) (.lit (.int 1))) [.for_ (.nm 3) (.rng [(.bi .len [(.var 8)])]) bB5] [], .ret (.bi .tuple [(.comp (.bi .tuple [(.comp (.idx (.var 8) (.tup [(.var 13), (.var 14)])) (.nm 14) (.rng [(.bin .add (.var 1) (.lit (.int 2)))]) [] [14])]) (.nm 13) (.rng [(.bin .add (.var 1) (.lit (.int 1)))]) [] [13])])] := rfl
theorem filter_ne_len {p : Cell} : ∀ {left : List Cell}, left.Nodup → p ∈ left → (left.filter fun o => !decide (o = p)).length + 1 = left.length
  | x :: xs, h, hp => by
    rw [List.nodup_cons] at h
    by_cases e : x = p
    · subst e
      have : xs.filter (fun o => !decide (o = x)) = xs := List.filter_eq_self.mpr fun a ha => by
        have : a ≠ x := fun e => h.1 (e ▸ ha)
        simp [this]
      simp [this]
    · have hp' : p ∈ xs := (List.mem_cons.mp hp).resolve_left fun q => e q.symm
      have := filter_ne_len h.2 hp'
      simp [e]
      exact this
theorem flat_take (w : List Dom) (k : Nat) (d : Dom) (h : w[k]? = some d) : flat (w.take (k + 1)) = flat (w.take k) ++ [d.1, d.2] := by
  unfold flat
  rw [List.take_succ, h, List.flatMap_append]
  rfl
theorem board_fill (Φ : Phi) {m : Nat} (T : TilOk m) (ds : List Int) (hd : ds.length = 20) (w : List Dom) (hw : w ∈ tilings m) (x1 x5 x6 : Option SV) : ∃ (f : Cell → Nat) (x3 x7 x9 x10 : Option SV), (∀ c, f c ≤ m) ∧ loopF (fun x ρ1 => exs Φ bB4 (ρ1.set 3 (some (fz x)))) ((List.range w.length).map enc) [some (fz (.lst (ds.map enc))), x1, some (fz (enc w)), none, none, x5, x6, some (fz (.lst ((pairs m).map enc))), some (.o (.dct [] [])), none, none, none, none, none, none] = .ok (.nx [some (fz (.lst (ds.map enc))), x1, some (fz (enc w)), x3, none, x5, x6, x7, some (numD (flat w) f), x9, x10, none, none, none, none]) := by
  have hlen := til_len T hw
  have hperm := til_perm T hw
  have hnd : (flat w).Nodup := hperm.nodup_iff.mpr (nodup_cells m T.le)
  have hpl := (goals_le m T.le).2.2.1
  let P : List Nat → Env → Prop := fun pre ρ => ∃ (left : List Cell) (f : Cell → Nat) (x3 x9 x10 : Option SV), left.length + pre.length = w.length ∧ (∀ p ∈ left, p ∈ pairs m) ∧ left.Nodup ∧ (∀ c, f c ≤ m) ∧ ρ = [some (fz (.lst (ds.map enc))), x1, some (fz (enc w)), x3, none, x5, x6, some (fz (.lst (left.map enc))), some (numD (flat (w.take pre.length)) f), x9, x10, none, none, none, none]
  obtain ⟨ρ, e, left, f, x3, x9, x10, h1, h2, h3, h4, rfl⟩ := loopF_run (f := fun x ρ1 => exs Φ bB4 (ρ1.set 3 (some (fz x)))) (g := (enc : Nat → D)) (full := List.range w.length) P (ρ := [some (fz (.lst (ds.map enc))), x1, some (fz (enc w)), none, none, x5, x6, some (fz (.lst ((pairs m).map enc))), some (.o (.dct [] [])), none, none, none, none, none, none]) ⟨pairs m, fun _ => 0, none, none, none, by simp [hlen], fun _ h => h, nodup_pairs T.le, fun _ => Nat.zero_le _, rfl⟩ (by
    rintro pre k post ρ hf ⟨left, f, x3, x9, x10, h1, h2, h3, h4, rfl⟩
    obtain ⟨rfl, hk⟩ := range_split hf
    have hkd : w[pre.length]? = some w[pre.length] := List.getElem?_eq_getElem hk
    have ft := flat_take w _ _ hkd
    generalize w[pre.length] = d at hkd ft
    have hl : left ≠ [] := by
      intro e
      subst e
      simp at h1
      omega
    have hsub : (flat (w.take (pre.length + 1))).Nodup := by
      have : flat w = flat (w.take (pre.length + 1)) ++ flat (w.drop (pre.length + 1)) := by
        unfold flat
        rw [← List.flatMap_append, List.take_append_drop]
      rw [this, List.nodup_append] at hnd
      exact hnd.1
    rw [ft, List.nodup_append] at hsub
    obtain ⟨n1, n2, n3⟩ := hsub
    have d1 : d.1 ∉ flat (w.take pre.length) := fun q => n3 _ q _ (by simp) rfl
    have d2 : d.2 ∉ flat (w.take pre.length) := fun q => n3 _ q _ (by simp) rfl
    have d3 : d.1 ≠ d.2 := by
      intro e
      rw [e] at n2
      simp at n2
    have hz : (flat (w.take pre.length)).length < 1000 := by
      rw [flat_len, List.length_take]
      omega
    obtain ⟨p, u, v, y, z, hp, huv, ex⟩ := board_turn Φ ds hd w pre.length d hkd left hl (flat (w.take pre.length)) f n1 d1 d2 d3 hz (by omega) x1 none x5 x6 x9 x10 none none none none
    have hpm := mem_pairs.mp (h2 p hp)
    refine ⟨_, ex, left.filter fun o => !decide (o = p), upd (upd f d.1 u) d.2 v, some (fz (.int pre.length)), y, z, ?_, fun q hq => h2 q (List.mem_filter.mp hq).1, h3.filter _, fun c => ?_, ?_⟩
    · have := filter_ne_len h3 hp
      simp at h1 ⊢
      omega
    · unfold upd
      have := h4 c
      split
      · omega
      · split
        · omega
        · exact this
    · rw [List.length_append]
      show _ = _
      rw [show pre.length + [pre.length].length = pre.length + 1 from rfl, ft])
  have : w.take (List.range w.length).length = w := by simp
  rw [this] at e
  exact ⟨f, x3, _, x9, x10, h4, e⟩
end

section
theorem so_cell (xs : List Cell) : sortOk (xs.map enc) = true := sortOk_prod (by decide) xs
theorem mod_nat (x : Int) (m : Nat) : x % ((m : Int) + 1) = (((x % ((m : Int) + 1)).toNat : Nat) : Int) ∧ (x % ((m : Int) + 1)).toNat ≤ m := by
  have h1 : 0 ≤ x % ((m : Int) + 1) := Int.emod_nonneg _ (by omega)
  have h2 : x % ((m : Int) + 1) < (m : Int) + 1 := Int.emod_lt_of_pos _ (by omega)
  omega
theorem addK_mem {ks : List Cell} {x : Cell} (h : x ∈ ks) : addK ks x = ks := if_pos h
theorem kind0_ok (Φ : Phi) {m : Nat} (ds : List Int) (hd : ds.length = 20) (ks : List Cell) (hn : ks.Nodup) (hne : ks ≠ []) (hz : ks.length < 1000) (f : Cell → Nat) (hf : ∀ c, f c ≤ m) (x2 x3 x4 x5 x6 x7 x9 x10 x11 x12 x13 x14 : Option SV) : ∃ (g : Cell → Nat) (y : Option SV), (∀ c, g c ≤ m) ∧ exs Φ bBk0 [some (fz (.lst (ds.map enc))), some (fz (.int m)), x2, x3, x4, x5, x6, x7, some (numD ks f), x9, x10, x11, x12, x13, x14] = .ok (.nx [some (fz (.lst (ds.map enc))), some (fz (.int m)), x2, x3, x4, x5, x6, x7, some (numD ks g), x9, x10, y, x12, x13, x14]) := by
  obtain ⟨a, ha⟩ : ∃ a, ds[13]? = some a := ⟨ds[13], by rw [List.getElem?_eq_getElem]⟩
  obtain ⟨b, hb⟩ : ∃ a, ds[14]? = some a := ⟨ds[14], by rw [List.getElem?_eq_getElem]⟩
  have hne' : sortE ks ≠ [] := by
    intro e
    have := length_sortE ks
    rw [e] at this
    exact hne (List.length_eq_zero_iff.mp this.symm)
  obtain ⟨p, hp, q⟩ := atI_mod (fun c : Cell => enc c) hne' a
  rw [length_sortE] at q
  have hp := mem_sortE.mp hp
  obtain ⟨v1, v2⟩ := mod_nat b m
  generalize (b % ((m : Int) + 1)).toNat = v at v1 v2
  have so := so_cell ks
  have e4 : 0 < ks.length := List.length_pos_iff.mpr hne
  have e5 : (0 : Int) < (m : Int) + 1 := by omega
  have kk := keyOk_of kt_cell
  have pk := putKs_map p ks
  have pv := putD (x := p) f v hn
  rw [addK_mem hp] at pk pv
  have z1 : ks.length < 16777216 := by omega
  refine ⟨upd f p v, some (fz (enc p)), fun c => by unfold upd; split; exact v2; exact hf c, ?_⟩
  simp [bBk0, numD, so, ha, hb, q, e4, e5, kk, -u_putKs_map, -List.map_append, pk, z1, enc_int, v1]
  exact pv
theorem kind1_ok (Φ : Phi) {m : Nat} (ds : List Int) (hd : ds.length = 20) (ks : List Cell) (hn : ks.Nodup) (hz : ks.length < 1000) (f : Cell → Nat) (hf : ∀ c, f c ≤ m) (x2 x3 x4 x5 x6 x7 x9 x10 x11 x12 x13 x14 : Option SV) : ∃ (g : Cell → Nat) (y : Option SV), (∀ c, g c ≤ m) ∧ loopF (fun x ρ1 => exs Φ bB5 (ρ1.set 3 (some (fz x)))) ((List.range ks.length).map enc) [some (fz (.lst (ds.map enc))), some (fz (.int m)), x2, x3, x4, x5, x6, x7, some (numD ks f), x9, x10, x11, x12, x13, x14] = .ok (.nx [some (fz (.lst (ds.map enc))), some (fz (.int m)), x2, y, x4, x5, x6, x7, some (numD ks g), x9, x10, x11, x12, x13, x14]) := by
  let P : List Nat → Env → Prop := fun pre ρ => ∃ (g : Cell → Nat) (y : Option SV), (∀ c, g c ≤ m) ∧ ρ = [some (fz (.lst (ds.map enc))), some (fz (.int m)), x2, y, x4, x5, x6, x7, some (numD ks g), x9, x10, x11, x12, x13, x14]
  obtain ⟨ρ, e, g, y, h, rfl⟩ := loopF_run (f := fun x ρ1 => exs Φ bB5 (ρ1.set 3 (some (fz x)))) (g := (enc : Nat → D)) (full := List.range ks.length) P (ρ := [some (fz (.lst (ds.map enc))), some (fz (.int m)), x2, x3, x4, x5, x6, x7, some (numD ks f), x9, x10, x11, x12, x13, x14]) ⟨f, x3, hf, rfl⟩ (by
    rintro pre k post ρ hfull ⟨f, y, hf, rfl⟩
    obtain ⟨rfl, hk⟩ := range_split hfull
    generalize pre.length = k at hk
    obtain ⟨a, ha⟩ : ∃ a, ds[1 + k % 14]? = some a := ⟨ds[1 + k % 14], by rw [List.getElem?_eq_getElem]⟩
    have e1 : (1 : Int) + (k : Int) % 14 = ((1 + k % 14 : Nat) : Int) := by omega
    have q0 : atI (ds.map (enc : Int → D)) (1 + (k : Int) % 14) = some (D.int a) := by
      rw [e1, atI_nat]
      simp [ha, enc_int]
    have e2 : (0 : Int) < 2 + (k : Int) / 14 ∧ 2 + (k : Int) / 14 < 1073741824 := by omega
    have e5 : (0 : Int) < (m : Int) + 1 := by omega
    obtain ⟨v1, v2⟩ := mod_nat (a / (2 + (k : Int) / 14)) m
    generalize ((a / (2 + (k : Int) / 14)) % ((m : Int) + 1)).toNat = v at v1 v2
    have hk' : k < (sortE ks).length := by rw [length_sortE]; exact hk
    have hs : (sortE ks)[k]? = some (sortE ks)[k] := List.getElem?_eq_getElem hk'
    have hp : (sortE ks)[k] ∈ ks := mem_sortE.mp (List.getElem_mem hk')
    generalize (sortE ks)[k] = p at hs hp
    have so := so_cell ks
    have kk := keyOk_of kt_cell
    have pk := putKs_map p ks
    have pv := putD (x := p) f v hn
    rw [addK_mem hp] at pk pv
    have z1 : ks.length < 16777216 := by omega
    refine ⟨_, ?_, upd f p v, some (fz (.int k)), fun c => by unfold upd; split; exact v2; exact hf c, rfl⟩
    simp [bB5, numD, so, q0, e2, e5, hs, kk, -u_putKs_map, -List.map_append, pk, z1, enc_nat, v1]
    exact pv)
  exact ⟨g, y, h, e⟩
theorem turnC_ok {Φ : Phi} {elt : E} {tg : Tg} {ifs : List E} {ρ0 ρ : Env} {x : D} {s : SV} {d : D} (h1 : bindTg tg x ρ0 = some ρ) (h2 : evt Φ ifs ρ = .ok true) (h3 : ev Φ elt ρ = .ok s) (h4 : fr elt s = some d) : turnC Φ elt tg ifs ρ0 x = .ok (some d) := by
  unfold turnC
  rw [h1]
  show (match evt Φ ifs ρ with | .ok true => _ | .ok false => _ | _ => _) = _
  rw [h2]
  show (match ev Φ elt ρ with | .ok s => _ | _ => _) = _
  rw [h3]
  show (match fr elt s with | some d => R.ok (some d) | none => R.bad) = _
  rw [h4]
theorem bl_inner (Φ : Phi) {m : Nat} (ks : List Cell) (r : Nat) (hc : ∀ c, c < m + 2 → (r, c) ∈ ks) (f : Cell → Nat) (rm2 : rngS [.int ((m : Int) + 2)] = some ((List.range (m + 2)).map enc)) (x0 x2 x3 x4 x5 x6 x7 x9 x10 x11 : Option SV) : ev Φ (.comp (.idx (.var 8) (.tup [(.var 13), (.var 14)])) (.nm 14) (.rng [(.bin .add (.var 1) (.lit (.int 2)))]) [] [14]) [x0, some (fz (.int m)), x2, x3, x4, x5, x6, x7, some (numD ks f), x9, x10, x11, none, some (fz (enc r)), none] = .ok (oL ((List.range (m + 2)).map fun c => enc (f (r, c)))) := by
  have kk := keyOk_of kt_cell
  have ec : ∀ r c : Nat, D.tup [D.int r, D.int c] = enc (r, c) := fun _ _ => rfl
  refine ev_compm (enc := (enc : Nat → D)) (xs := List.range (m + 2)) (by simp -implicitDefEqProofs [rm2]) fun c hc' => ?_
  have := hc c (List.mem_range.mp hc')
  simp -implicitDefEqProofs [turnC, numD, enc_nat, ec, kk, this]
theorem bl_outer (Φ : Phi) {m : Nat} (ks : List Cell) (hc : ∀ r c, r < m + 1 → c < m + 2 → (r, c) ∈ ks) (f : Cell → Nat) (rm1 : rngS [.int ((m : Int) + 1)] = some ((List.range (m + 1)).map enc)) (rm2 : rngS [.int ((m : Int) + 2)] = some ((List.range (m + 2)).map enc)) (x0 x2 x3 x4 x5 x6 x7 x9 x10 x11 : Option SV) : ev Φ (.comp (.bi .tuple [(.comp (.idx (.var 8) (.tup [(.var 13), (.var 14)])) (.nm 14) (.rng [(.bin .add (.var 1) (.lit (.int 2)))]) [] [14])]) (.nm 13) (.rng [(.bin .add (.var 1) (.lit (.int 1)))]) [] [13]) [x0, some (fz (.int m)), x2, x3, x4, x5, x6, x7, some (numD ks f), x9, x10, x11, none, none, none] = .ok (oL ((List.range (m + 1)).map fun r => .tup ((List.range (m + 2)).map fun c => enc (f (r, c))))) := by
  refine ev_compm (enc := (enc : Nat → D)) (xs := List.range (m + 1)) (by simp -implicitDefEqProofs [rm1]) fun r hr => ?_
  have inner := bl_inner Φ ks r (fun c h => hc r c (List.mem_range.mp hr) h) f rm2 x0 x2 x3 x4 x5 x6 x7 x9 x10 x11
  have tb : bindTg (.nm 13) (enc r) (wipe [x0, some (fz (.int m)), x2, x3, x4, x5, x6, x7, some (numD ks f), x9, x10, x11, none, none, none] [13]) = some [x0, some (fz (.int m)), x2, x3, x4, x5, x6, x7, some (numD ks f), x9, x10, x11, none, some (fz (enc r)), none] := by simp
  have e2 : ev Φ (.bi .tuple [(.comp (.idx (.var 8) (.tup [(.var 13), (.var 14)])) (.nm 14) (.rng [(.bin .add (.var 1) (.lit (.int 2)))]) [] [14])]) [x0, some (fz (.int m)), x2, x3, x4, x5, x6, x7, some (numD ks f), x9, x10, x11, none, some (fz (enc r)), none] = .ok (fz (.tup ((List.range (m + 2)).map fun c => enc (f (r, c))))) := by
    rw [ev_bi1 (by decide) (by decide), inner]
    rfl
  exact turnC_ok tb evt_nil e2 rfl
theorem bl_last (Φ : Phi) {m : Nat} (ks : List Cell) (hc : ∀ r c, r < m + 1 → c < m + 2 → (r, c) ∈ ks) (f : Cell → Nat) (rm1 : rngS [.int ((m : Int) + 1)] = some ((List.range (m + 1)).map enc)) (rm2 : rngS [.int ((m : Int) + 2)] = some ((List.range (m + 2)).map enc)) (x0 x2 x3 x4 x5 x6 x7 x9 x10 x11 : Option SV) : exs Φ [.ret (.bi .tuple [(.comp (.bi .tuple [(.comp (.idx (.var 8) (.tup [(.var 13), (.var 14)])) (.nm 14) (.rng [(.bin .add (.var 1) (.lit (.int 2)))]) [] [14])]) (.nm 13) (.rng [(.bin .add (.var 1) (.lit (.int 1)))]) [] [13])])] [x0, some (fz (.int m)), x2, x3, x4, x5, x6, x7, some (numD ks f), x9, x10, x11, none, none, none] = .ok (.rt (fz (boardD m f)) [x0, some (fz (.int m)), x2, x3, x4, x5, x6, x7, some (numD ks f), x9, x10, x11, none, none, none]) := by
  have outer := bl_outer Φ ks hc f rm1 rm2 x0 x2 x3 x4 x5 x6 x7 x9 x10 x11
  simp -implicitDefEqProofs [-ev_comp', outer, boardD]
theorem board_last (Φ : Phi) {m : Nat} (hm : m ≤ 4) (ds : List Int) (w : List Dom) (hc : ∀ r c, r < m + 1 → c < m + 2 → (r, c) ∈ flat w) (f : Cell → Nat) (x2 x3 x4 x5 x6 x7 x9 x10 x11 : Option SV) : exs Φ [.ret (.bi .tuple [(.comp (.bi .tuple [(.comp (.idx (.var 8) (.tup [(.var 13), (.var 14)])) (.nm 14) (.rng [(.bin .add (.var 1) (.lit (.int 2)))]) [] [14])]) (.nm 13) (.rng [(.bin .add (.var 1) (.lit (.int 1)))]) [] [13])])] [some (fz (.lst (ds.map enc))), some (fz (.int m)), x2, x3, x4, x5, x6, x7, some (numD (flat w) f), x9, x10, x11, none, none, none] = .ok (.rt (fz (boardD m f)) [some (fz (.lst (ds.map enc))), some (fz (.int m)), x2, x3, x4, x5, x6, x7, some (numD (flat w) f), x9, x10, x11, none, none, none]) :=
  bl_last Φ (flat w) hc f (rngS_nat (k := m + 1) (by omega)) (rngS_nat (k := m + 2) (by omega)) _ x2 x3 x4 x5 x6 x7 x9 x10 x11
theorem board_start (Φ : Phi) {m : Nat} (ds : List Int) (w : List Dom) (T : List (List Dom)) (P : List Cell) (L : D) (x3 x7 x9 x10 : Option SV) (a0 a12 : Int) (ht : Φ n__law_tilings [fz (.int m)] = .ok (oL (T.map enc)) []) (hp : Φ n__law_pairs [fz (.int m)] = .ok (fz (.lst (P.map enc))) []) (ha0 : ds[0]? = some a0) (ha12 : ds[12]? = some a12) (q0 : atI (T.map enc) (a0 % (T.length : Int)) = some (enc w)) (t0 : 0 < T.length) (r1 : rngS [.int (w.length : Int)] = some ((List.range w.length).map enc)) (X : SV)
   (e1 : loopF (fun x ρ1 => exs Φ bB4 (ρ1.set 3 (some (fz x)))) ((List.range w.length).map enc) [some (fz (.lst (ds.map enc))), some (fz (.int m)), some (fz (enc w)), none, none, some (fz (.lst (T.map enc))), some (fz (.lst (P.map enc))), some (fz (.lst (P.map enc))), some (.o (.dct [] [])), none, none, none, none, none, none] = .ok (.nx [some (fz (.lst (ds.map enc))), some (fz (.int m)), some (fz (enc w)), x3, none, some (fz (.lst (T.map enc))), some (fz (.lst (P.map enc))), x7, some X, x9, x10, none, none, none, none])) (rest : List S) :
   exs Φ (b__law_board.take 8 ++ rest) [some (fz (.lst (ds.map enc))), some (fz (.int m)), none, none, none, none, none, none, none, none, none, none, none, none, none] = exs Φ rest [some (fz (.lst (ds.map enc))), some (fz (.int m)), some (fz (enc w)), x3, some (fz (.int (a12 % 4))), some (fz (.lst (T.map enc))), some (fz (.lst (P.map enc))), x7, some X, x9, x10, none, none, none, none] := by
  simp only [n__law_tilings, n__law_pairs] at ht hp
  have hb : b__law_board.take 8 = [.par [5, 6] [(.call n__law_tilings [(.var 1)]), (.call n__law_pairs [(.var 1)])], .frz [5, 6], .asg (.nm 2) (.idx (.var 5) (.bin .mod (.bi .int [(.idx (.var 0) (.lit (.int 0)))]) (.bi .len [(.var 5)]))), .frz [2], .par [7, 8] [(.bi .list [(.var 6)]), (.dnew)], .frz [7], .for_ (.nm 3) (.rng [(.bi .len [(.var 2)])]) bB4, .asg (.nm 4) (.bin .mod (.bi .int [(.idx (.var 0) (.lit (.int 12)))]) (.lit (.int 4)))] := rfl
  rw [exs_append, hb]
  have q0' : atI (T.map enc) (a0 % (T.length : Int)) = some (.tup (w.map enc)) := q0
  simp -implicitDefEqProofs only [enc_list] at e1
  simp -implicitDefEqProofs [ht, hp, ha0, ha12, q0', t0, r1, e1, enc_int, enc_list]
theorem board_run (Φ : Phi) {m : Nat} (T : TilOk m) (ds : List Int) (hd : ds.length = 20) (ht : Φ n__law_tilings [fz (.int m)] = .ok (oL ((tilings m).map enc)) []) (hp : Φ n__law_pairs [fz (.int m)] = .ok (fz (.lst ((pairs m).map enc))) []) : ∃ b, OkB m b ∧ runFn Φ i__law_board [fz (.lst (ds.map enc)), fz (.int m)] = .ok (fz (boardD m b)) [] := by
  have hT : tilings m ≠ [] := by
    unfold tilings
    simp -implicitDefEqProofs
    exact T.ne
  have hN : (tilings m).length ≤ 2000 := by unfold tilings; rw [List.length_map]; exact T.num
  obtain ⟨a0, ha0⟩ : ∃ a, ds[0]? = some a := ⟨ds[0], by rw [List.getElem?_eq_getElem]⟩
  obtain ⟨a12, ha12⟩ : ∃ a, ds[12]? = some a := ⟨ds[12], by rw [List.getElem?_eq_getElem]⟩
  obtain ⟨w, hw, q0⟩ := atI_mod (fun c : List Dom => enc c) hT a0
  have hperm := til_perm T hw
  have hnd : (flat w).Nodup := hperm.nodup_iff.mpr (nodup_cells m T.le)
  have hwl := til_len T hw
  obtain ⟨l1, l2, l3, l4⟩ := goals_le m T.le
  have hne : flat w ≠ [] := by
    intro e
    rw [e] at hperm
    have := hperm.mem_iff.mpr (mem_cells.mpr ⟨Nat.succ_pos m, Nat.succ_pos (m + 1)⟩ : (0, 0) ∈ cells m)
    simp at this
  have hz : (flat w).length < 1000 := by rw [flat_len]; omega
  obtain ⟨f, x3, x7, x9, x10, hf, e1⟩ := board_fill Φ T ds hd w hw (some (fz (.int m))) (some (fz (.lst ((tilings m).map enc)))) (some (fz (.lst ((pairs m).map enc))))
  obtain ⟨g, y0, hg, e2⟩ := kind0_ok Φ (m := m) ds hd (flat w) hnd hne hz f hf (some (fz (enc w))) x3 (some (fz (.int (a12 % 4)))) (some (fz (.lst ((tilings m).map enc)))) (some (fz (.lst ((pairs m).map enc)))) x7 x9 x10 none none none none
  obtain ⟨h, y1, hh, e3⟩ := kind1_ok Φ (m := m) ds hd (flat w) hnd hz f hf (some (fz (enc w))) x3 (some (fz (.int (a12 % 4)))) (some (fz (.lst ((tilings m).map enc)))) (some (fz (.lst ((pairs m).map enc)))) x7 x9 x10 none none none none
  have t0 : 0 < (tilings m).length := List.length_pos_iff.mpr hT
  have r1 : rngS [.int (w.length : Int)] = some ((List.range w.length).map enc) := rngS_nat (by omega)
  have r2 : rngS [.int ((flat w).length : Int)] = some ((List.range (flat w).length).map enc) := rngS_nat (by omega)
  have hc : ∀ r c, r < m + 1 → c < m + 2 → (r, c) ∈ flat w := fun r c h1 h2 => hperm.mem_iff.mpr (mem_cells.mpr ⟨h1, h2⟩)
  have last := fun f x2 x3 x4 x5 x6 x7 x9 x10 x11 => board_last Φ T.le ds w hc f x2 x3 x4 x5 x6 x7 x9 x10 x11
  simp -implicitDefEqProofs only [n__law_tilings, n__law_pairs] at ht hp
  have start := fun rest => board_start Φ ds w (tilings m) (pairs m) .non x3 x7 x9 x10 a0 a12 ht hp ha0 ha12 q0 t0 r1 _ e1 rest
  have body : b__law_board = b__law_board.take 8 ++ [.if_ (.cmp .eq (.var 4) (.lit (.int 0))) bBk0 [], .if_ (.cmp .eq (.var 4) (.lit (.int 1))) [.for_ (.nm 3) (.rng [(.bi .len [(.var 8)])]) bB5] [], .ret (.bi .tuple [(.comp (.bi .tuple [(.comp (.idx (.var 8) (.tup [(.var 13), (.var 14)])) (.nm 14) (.rng [(.bin .add (.var 1) (.lit (.int 2)))]) [] [14])]) (.nm 13) (.rng [(.bin .add (.var 1) (.lit (.int 1)))]) [] [13])])] := rfl
  have ln : lenS (numD (flat w) f) = some (fz (.int (flat w).length)) := by simp -implicitDefEqProofs [numD]
  have fin : ∃ (b : Cell → Nat) (ρ : Env), (∀ c, b c ≤ m) ∧ exs Φ b__law_board [some (fz (.lst (ds.map enc))), some (fz (.int m)), none, none, none, none, none, none, none, none, none, none, none, none, none] = .ok (.rt (fz (boardD m b)) ρ) := by
    rw [body]
    by_cases k0 : a12 % 4 = 0
    · have h1 : exs Φ (b__law_board.take 8 ++ [.if_ (.cmp .eq (.var 4) (.lit (.int 0))) bBk0 [], .if_ (.cmp .eq (.var 4) (.lit (.int 1))) [.for_ (.nm 3) (.rng [(.bi .len [(.var 8)])]) bB5] [], .ret (.bi .tuple [(.comp (.bi .tuple [(.comp (.idx (.var 8) (.tup [(.var 13), (.var 14)])) (.nm 14) (.rng [(.bin .add (.var 1) (.lit (.int 2)))]) [] [14])]) (.nm 13) (.rng [(.bin .add (.var 1) (.lit (.int 1)))]) [] [13])])]) [some (fz (.lst (ds.map enc))), some (fz (.int m)), none, none, none, none, none, none, none, none, none, none, none, none, none] = exs Φ [.ret (.bi .tuple [(.comp (.bi .tuple [(.comp (.idx (.var 8) (.tup [(.var 13), (.var 14)])) (.nm 14) (.rng [(.bin .add (.var 1) (.lit (.int 2)))]) [] [14])]) (.nm 13) (.rng [(.bin .add (.var 1) (.lit (.int 1)))]) [] [13])])] [some (fz (.lst (ds.map enc))), some (fz (.int m)), some (fz (enc w)), x3, some (fz (.int (a12 % 4))), some (fz (.lst ((tilings m).map enc))), some (fz (.lst ((pairs m).map enc))), x7, some (numD (flat w) g), x9, x10, y0, none, none, none] := by
        rw [start, exs_cons, ex_if]
        have : (ev Φ (.cmp .eq (.var 4) (.lit (.int 0))) [some (fz (.lst (ds.map enc))), some (fz (.int m)), some (fz (enc w)), x3, some (fz (.int (a12 % 4))), some (fz (.lst ((tilings m).map enc))), some (fz (.lst ((pairs m).map enc))), x7, some (numD (flat w) f), x9, x10, none, none, none, none] >>= boolS) = .ok true := by simp -implicitDefEqProofs [k0]
        rw [this, RS.of_ok]
        simp -implicitDefEqProofs only [if_true]
        rw [e2, RS.seq_nx, exs_cons, ex_if]
        have : (ev Φ (.cmp .eq (.var 4) (.lit (.int 1))) [some (fz (.lst (ds.map enc))), some (fz (.int m)), some (fz (enc w)), x3, some (fz (.int (a12 % 4))), some (fz (.lst ((tilings m).map enc))), some (fz (.lst ((pairs m).map enc))), x7, some (numD (flat w) g), x9, x10, y0, none, none, none] >>= boolS) = .ok false := by simp -implicitDefEqProofs [k0]
        rw [this, RS.of_ok]
        simp -implicitDefEqProofs only [Bool.false_eq_true, if_false, exs_nil, RS.seq_nx]
      exact ⟨g, _, hg, h1.trans (last g _ _ _ _ _ _ _ _ _)⟩
    · by_cases k1 : a12 % 4 = 1
      · have h1 : exs Φ (b__law_board.take 8 ++ [.if_ (.cmp .eq (.var 4) (.lit (.int 0))) bBk0 [], .if_ (.cmp .eq (.var 4) (.lit (.int 1))) [.for_ (.nm 3) (.rng [(.bi .len [(.var 8)])]) bB5] [], .ret (.bi .tuple [(.comp (.bi .tuple [(.comp (.idx (.var 8) (.tup [(.var 13), (.var 14)])) (.nm 14) (.rng [(.bin .add (.var 1) (.lit (.int 2)))]) [] [14])]) (.nm 13) (.rng [(.bin .add (.var 1) (.lit (.int 1)))]) [] [13])])]) [some (fz (.lst (ds.map enc))), some (fz (.int m)), none, none, none, none, none, none, none, none, none, none, none, none, none] = exs Φ [.ret (.bi .tuple [(.comp (.bi .tuple [(.comp (.idx (.var 8) (.tup [(.var 13), (.var 14)])) (.nm 14) (.rng [(.bin .add (.var 1) (.lit (.int 2)))]) [] [14])]) (.nm 13) (.rng [(.bin .add (.var 1) (.lit (.int 1)))]) [] [13])])] [some (fz (.lst (ds.map enc))), some (fz (.int m)), some (fz (enc w)), y1, some (fz (.int (a12 % 4))), some (fz (.lst ((tilings m).map enc))), some (fz (.lst ((pairs m).map enc))), x7, some (numD (flat w) h), x9, x10, none, none, none, none] := by
          rw [start, exs_cons, ex_if]
          have : (ev Φ (.cmp .eq (.var 4) (.lit (.int 0))) [some (fz (.lst (ds.map enc))), some (fz (.int m)), some (fz (enc w)), x3, some (fz (.int (a12 % 4))), some (fz (.lst ((tilings m).map enc))), some (fz (.lst ((pairs m).map enc))), x7, some (numD (flat w) f), x9, x10, none, none, none, none] >>= boolS) = .ok false := by simp -implicitDefEqProofs [k0]
          rw [this, RS.of_ok]
          simp -implicitDefEqProofs only [Bool.false_eq_true, if_false, exs_nil, RS.seq_nx]
          rw [exs_cons, ex_if]
          have : (ev Φ (.cmp .eq (.var 4) (.lit (.int 1))) [some (fz (.lst (ds.map enc))), some (fz (.int m)), some (fz (enc w)), x3, some (fz (.int (a12 % 4))), some (fz (.lst ((tilings m).map enc))), some (fz (.lst ((pairs m).map enc))), x7, some (numD (flat w) f), x9, x10, none, none, none, none] >>= boolS) = .ok true := by simp -implicitDefEqProofs [k1]
          rw [this, RS.of_ok]
          have r3 : evif Φ (.rng [(.bi .len [(.var 8)])]) [some (fz (.lst (ds.map enc))), some (fz (.int m)), some (fz (enc w)), x3, some (fz (.int (a12 % 4))), some (fz (.lst ((tilings m).map enc))), some (fz (.lst ((pairs m).map enc))), x7, some (numD (flat w) f), x9, x10, none, none, none, none] = .ok ((List.range (flat w).length).map enc) := by
            simp -implicitDefEqProofs [numD, r2]
          simp -implicitDefEqProofs only [if_true, exs_cons, exs_nil, ex_for, r3, RS.of_ok, bindTg_nm]
          rw [e3]
          simp -implicitDefEqProofs only [RS.seq_nx]
        exact ⟨h, _, hh, h1.trans (last h _ _ _ _ _ _ _ _ _)⟩
      · have h1 : exs Φ (b__law_board.take 8 ++ [.if_ (.cmp .eq (.var 4) (.lit (.int 0))) bBk0 [], .if_ (.cmp .eq (.var 4) (.lit (.int 1))) [.for_ (.nm 3) (.rng [(.bi .len [(.var 8)])]) bB5] [], .ret (.bi .tuple [(.comp (.bi .tuple [(.comp (.idx (.var 8) (.tup [(.var 13), (.var 14)])) (.nm 14) (.rng [(.bin .add (.var 1) (.lit (.int 2)))]) [] [14])]) (.nm 13) (.rng [(.bin .add (.var 1) (.lit (.int 1)))]) [] [13])])]) [some (fz (.lst (ds.map enc))), some (fz (.int m)), none, none, none, none, none, none, none, none, none, none, none, none, none] = exs Φ [.ret (.bi .tuple [(.comp (.bi .tuple [(.comp (.idx (.var 8) (.tup [(.var 13), (.var 14)])) (.nm 14) (.rng [(.bin .add (.var 1) (.lit (.int 2)))]) [] [14])]) (.nm 13) (.rng [(.bin .add (.var 1) (.lit (.int 1)))]) [] [13])])] [some (fz (.lst (ds.map enc))), some (fz (.int m)), some (fz (enc w)), x3, some (fz (.int (a12 % 4))), some (fz (.lst ((tilings m).map enc))), some (fz (.lst ((pairs m).map enc))), x7, some (numD (flat w) f), x9, x10, none, none, none, none] := by
          rw [start, exs_cons, ex_if]
          have : (ev Φ (.cmp .eq (.var 4) (.lit (.int 0))) [some (fz (.lst (ds.map enc))), some (fz (.int m)), some (fz (enc w)), x3, some (fz (.int (a12 % 4))), some (fz (.lst ((tilings m).map enc))), some (fz (.lst ((pairs m).map enc))), x7, some (numD (flat w) f), x9, x10, none, none, none, none] >>= boolS) = .ok false := by simp -implicitDefEqProofs [k0]
          rw [this, RS.of_ok]
          simp -implicitDefEqProofs only [Bool.false_eq_true, if_false, exs_nil, RS.seq_nx]
          rw [exs_cons, ex_if]
          have : (ev Φ (.cmp .eq (.var 4) (.lit (.int 1))) [some (fz (.lst (ds.map enc))), some (fz (.int m)), some (fz (enc w)), x3, some (fz (.int (a12 % 4))), some (fz (.lst ((tilings m).map enc))), some (fz (.lst ((pairs m).map enc))), x7, some (numD (flat w) f), x9, x10, none, none, none, none] >>= boolS) = .ok false := by simp -implicitDefEqProofs [k1]
          rw [this, RS.of_ok]
          simp -implicitDefEqProofs only [Bool.false_eq_true, if_false, exs_nil, RS.seq_nx]
        exact ⟨f, _, hf, h1.trans (last f _ _ _ _ _ _ _ _ _)⟩
  obtain ⟨b, ρ, hb, e⟩ := fin
  refine ⟨b, ⟨T.le, fun c _ => hb c⟩, ?_⟩
  exact runFn_rt (ρ0 := [some (fz (.lst (ds.map enc))), some (fz (.int m)), none, none, none, none, none, none, none, none, none, none, none, none, none]) (ss := []) rfl rfl rfl e rfl
end

/-! the law's own look, and the law -/
section
variable {m : Nat} {b : Cell → Nat}
theorem tilOk (m : Nat) (h : m ≤ 3) : TilOk m := by
  match m, h with
  | 0, _ => exact ⟨by decide, by kernel_rfl, by decide +kernel, by decide +kernel, by decide +kernel, by decide +kernel⟩
  | 1, _ => exact ⟨by decide, by kernel_rfl, by decide +kernel, by decide +kernel, by decide +kernel, by decide +kernel⟩
  | 2, _ => exact ⟨by decide, by kernel_rfl, by decide +kernel, by decide +kernel, by decide +kernel, by decide +kernel⟩
  | 3, _ => exact ⟨by decide, by kernel_rfl, by decide +kernel, by decide +kernel, by decide +kernel, by decide +kernel⟩
theorem tilings_M (T : TilOk m) (n : Nat) : M prog (n + 1) n__law_tilings [fz (.int m)] = .ok (oL ((tilings m).map enc)) [] := by
  rw [M_succ (h := rfl), til_run _ m T.le, T.eq]
  rfl
theorem board_M (T : TilOk m) (n : Nat) (ds : List Int) (hd : ds.length = 20) : ∃ b, OkB m b ∧ M prog (n + 2) n__law_board [fz (.lst (ds.map enc)), fz (.int m)] = .ok (fz (boardD m b)) [] := by
  obtain ⟨b, B, e⟩ := board_run (M prog (n + 1)) T ds hd (tilings_M T n) (law_pairs_M n m T.le)
  exact ⟨b, B, by rw [M_succ (h := rfl)]; exact e⟩
theorem til_sub (T : TilOk m) {w : List Dom} (h : w ∈ tilings m) : (∀ d ∈ w, d ∈ places m) ∧ w ≠ [] := by
  obtain ⟨u, hu, rfl⟩ := List.mem_map.mp h
  have c := (tiles_ok T.le).1 u hu
  refine ⟨fun d hd => c.sub d (mem_sortE.mp hd), fun e => ?_⟩
  have := til_perm T h
  rw [e] at this
  have := this.mem_iff.mpr (mem_cells.mpr ⟨Nat.succ_pos m, Nat.succ_pos (m + 1)⟩ : (0, 0) ∈ cells m)
  simp [flat] at this
theorem law_all_inner (Φ : Phi) (w : List Dom) (hp : ∀ d ∈ w, Φ n__law_pair [fz (boardD m b), fz (enc d)] = .ok (fz (enc (pairOf b d))) []) (x1 x3 : Option SV) : ev Φ (.comp (.call n__law_pair [(.var 0), (.var 3)]) (.nm 3) (.seq (.var 2)) [] [3]) [some (fz (boardD m b)), x1, some (fz (enc w)), x3] = .ok (oL ((w.map (pairOf b)).map enc)) := by
  rw [List.map_map]
  refine ev_compm (enc := (enc : Dom → D)) (xs := w) (by simp [enc_list]) fun d hd => ?_
  have := hp d hd
  simp only [n__law_pair] at this
  simp -implicitDefEqProofs [turnC, this]
theorem law_all_run (T : TilOk m) (Φ : Phi) (hp : ∀ d ∈ places m, Φ n__law_pair [fz (boardD m b), fz (enc d)] = .ok (fz (enc (pairOf b d))) []) (ht : Φ n__law_tilings [fz (.int m)] = .ok (oL ((tilings m).map enc)) []) (hq : Φ n__law_pairs [fz (.int m)] = .ok (fz (.lst ((pairs m).map enc))) []) :
    runFn Φ i__law_all [fz (boardD m b)] = .ok (oL ((good m b).map enc)) [] := by
  simp only [n__law_pair, n__law_tilings, n__law_pairs] at hp ht hq
  have p1 := plains_map (α := Cell) 59 (by decide)
  have so : ∀ xs : List Cell, sortOk (xs.map enc) = true := so_cell
  have e2 : (m : Int) + 1 - 1 = m := by omega
  have outer : ev Φ (.comp (.var 2) (.nm 2) (.seq (.call n__law_tilings [(.var 1)])) [(.cmp .eq (.bi .sorted [(.comp (.call n__law_pair [(.var 0), (.var 3)]) (.nm 3) (.seq (.var 2)) [] [3])]) (.call n__law_pairs [(.var 1)]))] [2]) [some (fz (boardD m b)), some (fz (.int m)), none, none] = .ok (oL (((tilings m).filter (isGood m b)).map enc)) := by
    refine ev_compf (enc := (enc : List Dom → D)) (xs := tilings m) (by simp -implicitDefEqProofs [ht]) fun w hw => ?_
    have inner := law_all_inner Φ w (fun d hd => hp d ((til_sub T hw).1 d hd)) (some (fz (.int m))) none
    have test : ev Φ (.cmp .eq (.bi .sorted [(.comp (.call n__law_pair [(.var 0), (.var 3)]) (.nm 3) (.seq (.var 2)) [] [3])]) (.call n__law_pairs [(.var 1)])) [some (fz (boardD m b)), some (fz (.int m)), some (fz (enc w)), none] = .ok (fz (.bl (isGood m b w))) := by
      have pl : ∀ xs : List Cell, plain 60 (.lst (xs.map enc)) = true := fun xs => p1 xs
      unfold isGood
      generalize w.map (pairOf b) = X at inner
      simp only [n__law_pair] at inner
      simp -implicitDefEqProofs [-ev_comp', inner, hq, so, pl]
    have tb : bindTg (.nm 2) (enc w) (wipe [some (fz (boardD m b)), some (fz (.int m)), none, none] [2]) = some [some (fz (boardD m b)), some (fz (.int m)), some (fz (enc w)), none] := by simp
    simp only [n__law_pair, n__law_pairs] at test
    unfold turnC
    rw [tb]
    simp -implicitDefEqProofs [-ev_cmp, -ev_comp', test]
    cases isGood m b w <;> rfl
  have so2 : sortOk (((tilings m).filter (isGood m b)).map enc) = true := sortOk_tup (by decide) fun w hw => by
    have := (til_sub T (List.mem_filter.mp hw).1).2
    cases w with
    | nil => exact absurd rfl this
    | cons => rfl
  simp only [n__law_pair, n__law_tilings, n__law_pairs] at outer
  have lb : lenS (fz (boardD m b)) = some (fz (.int (m + 1))) := by simp [boardD]
  have e1 : exs Φ [.asg (.nm 1) (.bin .sub (.bi .len [(.var 0)]) (.lit (.int 1)))] [some (fz (boardD m b)), none, none, none] = .ok (.nx [some (fz (boardD m b)), some (fz (.int m)), none, none]) := by
    simp -implicitDefEqProofs [-u_lenS, lb, e2]
  have hb : b__law_all = [.asg (.nm 1) (.bin .sub (.bi .len [(.var 0)]) (.lit (.int 1)))] ++ [.ret (.bi .sorted [(.comp (.var 2) (.nm 2) (.seq (.call n__law_tilings [(.var 1)])) [(.cmp .eq (.bi .sorted [(.comp (.call n__law_pair [(.var 0), (.var 3)]) (.nm 3) (.seq (.var 2)) [] [3])]) (.call n__law_pairs [(.var 1)]))] [2])])] := rfl
  refine runFn_rt (ρ0 := [some (fz (boardD m b)), none, none, none]) (ρ := [some (fz (boardD m b)), some (fz (.int m)), none, none]) (ss := []) rfl rfl rfl ?_ rfl
  show exs Φ b__law_all _ = _
  rw [hb, exs_append, e1, RS.seq_nx]
  simp -implicitDefEqProofs [-ev_comp', outer, so2, good]
end

section
variable {m : Nat} {b : Cell → Nat} (B : OkB m b)
include B in
theorem covers_num (h : (tilesC m).length ≤ 2000) : (covers m b).length ≤ 2000 := by
  have e := layL_good B
  have h1 : (layL m b).length = (covers m b).length := by unfold layL; rw [length_sortE, List.length_map]
  have h2 : (good m b).length ≤ (tilings m).length := by
    unfold good
    rw [length_sortE]
    exact List.length_filter_le _ _
  rw [← h1, e]
  unfold tilings at h2
  rw [List.length_map] at h2
  omega
include B in
theorem covers_ne {w : List Dom} (h : w ∈ covers m b) : w ≠ [] := by
  intro e
  subst e
  obtain ⟨d, hd, _⟩ := ((covers_ok B).1 _ h).all (.cell, (0, 0)) (mem_goals.mpr (.inl ⟨rfl, mem_cells.mpr ⟨Nat.succ_pos m, Nat.succ_pos (m + 1)⟩⟩))
  exact absurd hd (by simp)
include B in
theorem layings_M (T : TilOk m) (n : Nat) (h : 45 ≤ n) (h9 : n < 900) : M prog (n + 3) n__layings [fz (boardD m b)] = .ok (oL ((good m b).map enc)) [] := by
  rw [M_succ (h := rfl), ← layL_good B]
  have ha := all_ok m b B.le n (places m) (goals m) (Nat.le_trans (goals_le m B.le).1 h) h9 (fun _ h => h) (fun _ h => h) (invB B) (by rw [covers_fuel B n h]; have := covers_num B T.num; omega)
  rw [covers_fuel B n h] at ha
  exact layings_step m b _ (init_M n m B.le b) ha rfl fun w hw => covers_ne B hw
include B in
theorem good_nil : good m b = [] → covers m b = [] := by
  rw [← layL_good B]
  intro e
  have h1 : (layL m b).length = (covers m b).length := by unfold layL; rw [length_sortE, List.length_map]
  rw [e] at h1
  exact List.length_eq_zero_iff.mp h1.symm
theorem good_num (T : TilOk m) (h : (tilesC m).length ≤ 500) : (good m b).length ≤ 500 := by
  unfold good tilings
  rw [length_sortE]
  refine Nat.le_trans (List.length_filter_le _ _) ?_
  rw [List.length_map]
  exact h
end

/-! first layings -/
section
mutual
theorem eqD_refl : ∀ (n : Nat) (d : D), plain n d = true → eqD d d = true
  | _, .non, _ => rfl
  | _, .bl _, _ => by simp [eqD]
  | _, .int _, _ => by simp [eqD]
  | _, .str _, _ => by simp [eqD]
  | 0, .tup _, h => by simp [plain] at h
  | n + 1, .tup xs, h => by
    simp only [plain] at h
    simp only [eqD]
    exact eqDs_refl n xs h
  | 0, .lst _, h => by simp [plain] at h
  | n + 1, .lst xs, h => by
    simp only [plain] at h
    simp only [eqD]
    exact eqDs_refl n xs h
  | _, .dct _ _, h => by simp [plain] at h
  | _, .ins _ _ _, h => by simp [plain] at h
  | _, .scr _, h => by simp [plain] at h
theorem eqDs_refl : ∀ (n : Nat) (ds : List D), plains n ds = true → eqDs ds ds = true
  | _, [], _ => rfl
  | n, d :: ds, h => by
    simp only [plains, Bool.and_eq_true] at h
    simp only [eqDs, Bool.and_eq_true]
    exact ⟨eqD_refl n d h.1, eqDs_refl n ds h.2⟩
end
theorem plains_all' {α : Type} (n : Nat) (f : α → D) : ∀ {xs : List α}, (∀ x ∈ xs, plain n (f x) = true) → plains n (xs.map f) = true
  | [], _ => rfl
  | x :: xs, h => by
    simp only [List.map_cons, plains, Bool.and_eq_true]
    exact ⟨h x List.mem_cons_self, plains_all' n f fun y hy => h y (List.mem_cons_of_mem _ hy)⟩
variable {m : Nat} {b : Cell → Nat} (B : OkB m b)
include B in
theorem paper_plain : ∀ (j n k : Nat) (left : List Dom) (gls : List Goal), gls.length ≤ 3 * j → 2 * j + 3 ≤ k → gls.Nodup → (∀ d ∈ left, d ∈ places m) → Cov.Inv (gs b) left gls → (∀ d ∈ left, (gs b d).Nodup ∧ (gs b d).length = 3) → plain k (paperD m b n left gls) = true := by
  intro j
  induction j with
  | zero =>
    intro n k left gls hl hk hn hu hi ht
    have : gls = [] := List.length_eq_zero_iff.mp (by omega)
    subst this
    cases n <;> cases k <;> rfl
  | succ j ih =>
    intro n k left gls hl hk hn hu hi ht
    cases n with
    | zero => cases k <;> rfl
    | succ n =>
      unfold paperD
      by_cases hg : gls = []
      · subst hg
        cases k <;> rfl
      · obtain ⟨g, hgm, e⟩ := scarce_some m b left gls hg
        have er : rowsC m b left gls = rowsOf m b left g := by unfold rowsC; rw [e]
        rw [e]
        obtain ⟨k, rfl⟩ : ∃ i, k = i + 2 := ⟨k - 2, by omega⟩
        have h1 : plain (k + 1) (enc g.1) = true := Enc.plE _ (Nat.zero_le _) _
        have h2 : plain (k + 1) (enc g.2) = true := Enc.plE (k + 1) (show 1 ≤ k + 1 by omega) g.2
        have h3 : plains k ((rowsOf m b left g).map fun d => paperD m b n (Cov.going (gs b) left d) (Cov.still (gs b) gls d)) = true := plains_all' k _ fun d hd => by
          have hdl := rowsC_left m b (er ▸ hd : d ∈ rowsC m b left gls)
          obtain ⟨t1, t2⟩ := ht d hdl
          have l3 := Cov.still_three hn t1 (hi.sub d hdl)
          exact ih n k _ _ (by omega) (by omega) (hn.filter _) (fun x hx => hu x (Cov.mem_going.mp hx).1) (hi.step d) (fun x hx => ht x (Cov.mem_going.mp hx).1)
        show (plain (k + 1) (enc g.1) && (plain (k + 1) (enc g.2) && (plains k ((rowsOf m b left g).map fun d => paperD m b n (Cov.going (gs b) left d) (Cov.still (gs b) gls d)) && true))) = true
        rw [h1, h2, h3]
        rfl
theorem dom_ne (h : m ≤ 4) : ∀ d ∈ places m, d.1 ≠ d.2 := by
  match m, h with
  | 0, _ => decide +kernel
  | 1, _ => decide +kernel
  | 2, _ => decide +kernel
  | 3, _ => decide +kernel
  | 4, _ => decide +kernel
def noneD (m : Nat) (b : Cell → Nat) (n : Nat) : D := .tup [.str [110, 111, 110, 101], paperD m b n (places m) (goals m)]
include B in
theorem noneD_plain (n : Nat) : plain 60 (noneD m b n) = true := by
  have hl := (goals_le m B.le).1
  have three : ∀ d ∈ places m, (gs b d).Nodup ∧ (gs b d).length = 3 := fun d hd => by
    have := dom_ne B.le d hd
    refine ⟨?_, rfl⟩
    simp [gs, this]
  have p := paper_plain B 15 n 59 (places m) (goals m) (by omega) (by omega) (nodup_goals m B.le) (fun _ h => h) (invB B) three
  show (plain 59 (.str [110, 111, 110, 101]) && (plain 59 (paperD m b n (places m) (goals m)) && true)) = true
  rw [p]
  rfl
include B in
theorem none_M' (n : Nat) (h : 45 ≤ n) (e : covers m b = []) : M prog (n + 3) n__none [fz (boardD m b)] = .ok (fz (noneD m b n)) [] := by
  rw [M_succ (h := rfl)]
  exact none_step m b _ (init_M n m B.le b) (paper_ok m b B.le n (places m) (goals m) (Nat.le_trans (goals_le m B.le).1 h) (fun _ h => h) (fun _ h => h) (invB B) (by rw [covers_fuel B n h, e]))
def toldFirst (L : List (List Dom)) (x : D) : D := match L with
  | [] => x
  | v :: _ => .tup [.str [108, 97, 121, 105, 110, 103], enc v]
theorem first_step (Φ : Phi) {L : List (List Dom)} {x : D} {bd : D} (hc : Φ n_check_board [fz bd] = .ok (fz .non) []) (hl : Φ n__layings [fz bd] = .ok (oL (L.map enc)) []) (hx : L = [] → Φ n__none [fz bd] = .ok (fz x) []) : runFn Φ i_first_laying [fz bd] = .ok (fz (toldFirst L x)) [] := by
  simp only [n_check_board, n__layings, n__none] at hc hl hx
  match L with
  | [] => simp -implicitDefEqProofs [i_first_laying, b_first_laying, hc, hl, hx, toldFirst]
  | v :: t =>
    have h0 : (0 : Int) < (t.length : Int) + 1 := by omega
    simp -implicitDefEqProofs [i_first_laying, b_first_laying, hc, hl, toldFirst, h0]
include B in
theorem first_M (T : TilOk m) (n : Nat) (h : 45 ≤ n) (h9 : n < 900) : M prog (n + 4) n_first_laying [fz (boardD m b)] = .ok (fz (toldFirst (good m b) (noneD m b n))) [] := by
  rw [M_succ (h := rfl)]
  exact first_step _ (check_board_M n m B.le b B.bd) (layings_M B T n h h9) fun e => none_M' B n h (good_nil B e)
end

/-! papers: what is told of any value -/
section
variable (m : Nat) (b : Cell → Nat)
def sCell : List Nat := [99, 101, 108, 108]
def sPair : List Nat := [112, 97, 105, 114]
/-- the goal that two values are -/
def goalQ : D → D → Option Goal
  | .str s, .tup [.int r, .int c] => if 0 ≤ r ∧ 0 ≤ c then (if s = sCell then some (.cell, (r.toNat, c.toNat)) else if s = sPair then some (.pair, (r.toNat, c.toNat)) else none) else none
  | _, _ => none
theorem goalQ_enc (g : Goal) : goalQ (enc g.1) (enc g.2) = some g := by
  obtain ⟨t, r, c⟩ := g
  have h : (0 : Int) ≤ (r : Int) ∧ (0 : Int) ≤ (c : Int) := by omega
  have e2 : enc (r, c) = D.tup [.int r, .int c] := rfl
  cases t with
  | cell =>
    have e1 : enc Tag.cell = D.str sCell := rfl
    show goalQ (enc Tag.cell) (enc (r, c)) = _
    rw [e1, e2]
    unfold goalQ
    simp only [h, and_self, if_true, Int.toNat_natCast]
  | pair =>
    have e1 : enc Tag.pair = D.str sPair := rfl
    have e3 : ¬ sPair = sCell := by decide
    show goalQ (enc Tag.pair) (enc (r, c)) = _
    rw [e1, e2]
    unfold goalQ
    simp only [h, e3, and_self, if_true, if_false, Int.toNat_natCast]
theorem goalQ_some {x0 x1 : D} {g : Goal} (h : goalQ x0 x1 = some g) : x0 = enc g.1 ∧ x1 = enc g.2 := by
  unfold goalQ at h
  split at h
  · rename_i s r c
    split at h
    · rename_i q
      split at h
      · rename_i e
        cases h
        subst e
        refine ⟨rfl, ?_⟩
        show D.tup [.int r, .int c] = D.tup [.int (r.toNat : Int), .int (c.toNat : Int)]
        rw [Int.toNat_of_nonneg q.1, Int.toNat_of_nonneg q.2]
      · split at h
        · rename_i e
          cases h
          subst e
          refine ⟨rfl, ?_⟩
          show D.tup [.int r, .int c] = D.tup [.int (r.toNat : Int), .int (c.toNat : Int)]
          rw [Int.toNat_of_nonneg q.1, Int.toNat_of_nonneg q.2]
        · cases h
    · cases h
  · cases h
def firstP (f : Dom → D → Option (List Dom)) : List (Dom × D) → Option (List Dom)
  | [] => none
  | (d, q) :: t => match f d q with
    | some w => some (d :: w)
    | none => firstP f t
/-- the dominoes that lead to the first wrong part of a paper -/
def pathS : Nat → List Dom → List Goal → D → Option (List Dom)
  | 0, _, _, _ => some []
  | n + 1, left, gls, p => match p with
    | .tup [x0, x1, .tup ps] => (match goalQ x0 x1 with
      | some g => if g ∈ gls ∧ ps.length = (rowsOf m b left g).length then firstP (fun d q => pathS n (Cov.going (gs b) left d) (Cov.still (gs b) gls d) q) ((rowsOf m b left g).zip ps) else some []
      | none => some [])
    | _ => some []
def resD : Option (List Dom) → D
  | none => .non
  | some w => enc w
/-- not a paper's shape -/
def isShape : D → Bool
  | .tup [_, _, .tup _] => true
  | _ => false
theorem pathS_off {n : Nat} {left : List Dom} {gls : List Goal} {p : D} (h : isShape p = false) : pathS m b n left gls p = some [] := by
  cases n with
  | zero => rfl
  | succ n =>
    unfold pathS
    split
    · simp [isShape] at h
    · rfl
/-- any of them is a truth value -/
def anyB : List D → Bool
  | [] => false
  | .bl _ :: t => true
  | _ :: t => anyB t
theorem inList_goal (x0 x1 : D) : ∀ gls : List Goal, inList (.tup [x0, x1]) (gls.map enc) = gls.any fun g => eqD (enc g.1) x0 && eqD (enc g.2) x1
  | [] => rfl
  | g :: gls => by
    have ih := inList_goal x0 x1 gls
    unfold inList at ih ⊢
    rw [List.map_cons, List.any_cons, List.any_cons, ih]
    congr 1
    show eqD (.tup [enc g.1, enc g.2]) (.tup [x0, x1]) = _
    simp [eqD, eqDs]
theorem eqD_tag {t : Tag} {x : D} (h : eqD (enc t) x = true) : x = enc t := by
  cases t <;> cases x <;> first | (simp [eqD, enc] at h; done) | (rename_i s; exact congrArg D.str (eq_of_beq (show (_ == s) = true from h)).symm)
theorem eqD_cell {c : Cell} {x : D} (h : eqD (enc c) x = true) : ∃ u v, x = .tup [u, v] ∧ eqD (.int c.1) u = true ∧ eqD (.int c.2) v = true := by
  have h : eqD (.tup [.int c.1, .int c.2]) x = true := h
  cases x with
  | tup xs =>
    simp only [eqD] at h
    match xs with
    | [] => simp [eqDs] at h
    | [u] => simp [eqDs] at h
    | [u, v] =>
      simp only [eqDs, Bool.and_true, Bool.and_eq_true] at h
      exact ⟨u, v, rfl, h.1, h.2⟩
    | u :: v :: w :: t => simp [eqDs] at h
  | _ => simp [eqD] at h
theorem eqD_int {i : Int} {x : D} (h : eqD (.int i) x = true) : x = .int i ∨ ∃ c, x = .bl c := by
  cases x with
  | int j =>
    simp only [eqD] at h
    exact .inl (by rw [eq_of_beq h])
  | bl c => exact .inr ⟨c, rfl⟩
  | _ => simp [eqD] at h
/-- among the goals, and no truth value: just one of them -/
theorem among {gls : List Goal} {x0 x1 : D} (h : inList (.tup [x0, x1]) (gls.map enc) = true) : ∃ u v, x1 = .tup [u, v] ∧ ((anyB [u, v] = false ∧ ∃ g ∈ gls, goalQ x0 x1 = some g) ∨ (anyB [u, v] = true ∧ goalQ x0 x1 = none)) := by
  rw [inList_goal, List.any_eq_true] at h
  obtain ⟨g, hg, e⟩ := h
  rw [Bool.and_eq_true] at e
  obtain ⟨e0, e1⟩ := e
  have e0 := eqD_tag e0
  obtain ⟨u, v, rfl, e2, e3⟩ := eqD_cell e1
  refine ⟨u, v, rfl, ?_⟩
  rcases eqD_int e2 with rfl | ⟨c, rfl⟩
  · rcases eqD_int e3 with rfl | ⟨c, rfl⟩
    · refine .inl ⟨rfl, g, hg, ?_⟩
      rw [e0]
      exact goalQ_enc g
    · exact .inr ⟨rfl, by cases x0 <;> rfl⟩
  · exact .inr ⟨rfl, by cases x0 <;> cases v <;> rfl⟩
theorem not_among {gls : List Goal} {x0 x1 : D} (h : inList (.tup [x0, x1]) (gls.map enc) = false) {g : Goal} (e : goalQ x0 x1 = some g) : g ∉ gls := by
  intro hg
  obtain ⟨rfl, rfl⟩ := goalQ_some e
  have : inList (.tup [enc g.1, enc g.2]) (gls.map enc) = true := by
    rw [inList_goal, List.any_eq_true]
    exact ⟨g, hg, by rw [Enc.eqE, Enc.eqE]; simp⟩
  rw [h] at this
  cases this
end

/-! papers: the program's look -/
section
variable (m : Nat) (b : Cell → Nat)
theorem plain_isi {n : Nat} {d : D} (h : plain n d = true) : isiOk d = true := by
  cases d <;> first | rfl | (cases n <;> simp [plain] at h)
theorem plain_3 {n : Nat} {x0 x1 x2 : D} (h : plain (n + 1) (.tup [x0, x1, x2]) = true) : plain n x0 = true ∧ plain n x1 = true ∧ plain n x2 = true := by
  have h : plains n [x0, x1, x2] = true := h
  simp only [plains, Bool.and_true, Bool.and_eq_true] at h
  exact h
theorem plain_2 {n : Nat} {x0 x1 : D} (h : plain n x0 = true) (k : plain n x1 = true) : plain (n + 1) (.tup [x0, x1]) = true := by
  show plains n [x0, x1] = true
  simp [plains, h, k]
mutual
theorem plain_up : ∀ (n : Nat) (d : D), plain n d = true → plain (n + 1) d = true
  | _, .non, _ => rfl
  | _, .bl _, _ => rfl
  | _, .int _, _ => rfl
  | _, .str _, _ => rfl
  | 0, .tup _, h => by simp [plain] at h
  | n + 1, .tup xs, h => by
    have h : plains n xs = true := h
    exact plains_up n xs h
  | 0, .lst _, h => by simp [plain] at h
  | n + 1, .lst xs, h => by
    have h : plains n xs = true := h
    exact plains_up n xs h
  | n, .dct _ _, h => by simp [plain] at h
  | n, .ins _ _ _, h => by simp [plain] at h
  | n, .scr _, h => by simp [plain] at h
theorem plains_up : ∀ (n : Nat) (ds : List D), plains n ds = true → plains (n + 1) ds = true
  | _, [], _ => rfl
  | n, d :: ds, h => by
    simp only [plains, Bool.and_eq_true] at h
    simp only [plains, Bool.and_eq_true]
    exact ⟨plain_up n d h.1, plains_up n ds h.2⟩
end
theorem plain_le {n k : Nat} (h : n ≤ k) {d : D} (p : plain n d = true) : plain k d = true := by
  induction k with
  | zero => rw [Nat.le_zero.mp h] at p; exact p
  | succ k ih =>
    by_cases c : n = k + 1
    · subst c; exact p
    · exact plain_up k d (ih (by omega))
def c1E : E := .or (.not (.bi (.isi .tuple) [(.var 3)])) (.or (.cmp .ne (.bi .len [(.var 3)]) (.lit (.int 3))) (.or (.cmp .nin (.slc (.var 3) none (some (.lit (.int 2)))) (.var 2)) (.not (.bi (.isi .tuple) [(.idx (.var 3) (.lit (.int 2)))]))))
def bPz : List S := [.asg (.nm 7) (.call n__path [(.var 0), (.meth c_Laying n_Laying_going (.var 0) [(.var 1), (.var 5)]), (.meth c_Laying n_Laying_still (.var 0) [(.var 2), (.var 5)]), (.var 6)]), .frz [7], .if_ (.cmp .isn (.var 7) (.lit (.non))) [.ret (.bin .add (.tup [(.var 5)]) (.var 7))] []]
theorem path_body : b__path = [.if_ c1E [.ret (.tup [])] []] ++ ([.if_ (.bi .any [(.comp (.bi (.isi .bool) [(.var 8)]) (.nm 8) (.seq (.idx (.var 3) (.lit (.int 1)))) [] [8])]) [.ret (.tup [])] []] ++ ([.asg (.nm 4) (.comp (.var 5) (.nm 5) (.seq (.idx (.att (.var 0) fl_having) (.slc (.var 3) none (some (.lit (.int 2)))))) [(.cmp .in_ (.var 5) (.var 1))] [5]), .frz [4]] ++ ([.if_ (.cmp .ne (.bi .len [(.idx (.var 3) (.lit (.int 2)))]) (.bi .len [(.var 4)])) [.ret (.tup [])] []] ++ [.for_ (.tu [(.nm 5), (.nm 6)]) (.zip (.var 4) (.idx (.var 3) (.lit (.int 2)))) bPz, .ret (.lit (.non))]))) := rfl
def shapeG (gls : List Goal) : D → Bool
  | .tup [x0, x1, .tup _] => inList (.tup [x0, x1]) (gls.map enc)
  | _ => false
def envP (L : D) (left : List Dom) (gls : List Goal) (p : D) (x4 x5 x6 x7 : Option SV) : Env := [some (fz L), some (fz (.lst (left.map enc))), some (fz (.lst (gls.map enc))), some (fz p), x4, x5, x6, x7, none]
theorem c1_ok (Φ : Phi) (L : D) (left : List Dom) (gls : List Goal) (p : D) (hp : plain 60 p = true) : ev Φ c1E (envP L left gls p none none none none) = .ok (fz (.bl (!shapeG gls p))) := by
  have pg := plains_map (α := Goal) 60 (by decide) gls
  cases p with
  | tup xs =>
    match xs with
    | [] => simp -implicitDefEqProofs [c1E, envP, shapeG]
    | [_] => simp -implicitDefEqProofs [c1E, envP, shapeG]
    | [_, _] => simp -implicitDefEqProofs [c1E, envP, shapeG]
    | x :: y :: z :: w :: t =>
      have n3 : ¬ ((t.length : Int) + 1 + 1 + 1 + 1 = 3) := by omega
      simp -implicitDefEqProofs [c1E, envP, shapeG, n3]
    | [x0, x1, x2] =>
      obtain ⟨p0, p1, p2⟩ := plain_3 hp
      have i2 := plain_isi p2
      have pp := plain_2 p0 p1
      have cs : cutS (fz (.tup [x0, x1, x2])) none (some 2) = some (fz (.tup [x0, x1])) := rfl
      cases hI : inList (.tup [x0, x1]) (gls.map enc) with
      | true =>
        cases x2 with
        | tup ps => simp -implicitDefEqProofs [c1E, envP, shapeG, cs, pp, pg, hI]
        | dct _ _ => cases i2
        | ins _ _ _ => cases i2
        | scr _ => cases i2
        | _ => simp -implicitDefEqProofs [c1E, envP, shapeG, cs, pp, pg, hI]
      | false =>
        have : shapeG gls (.tup [x0, x1, x2]) = false := by
          cases x2 <;> first | rfl | exact hI
        rw [this]
        simp -implicitDefEqProofs [c1E, envP, cs, pp, pg, hI]
  | dct _ _ => simp [plain] at hp
  | ins _ _ _ => simp [plain] at hp
  | scr _ => simp [plain] at hp
  | _ => simp -implicitDefEqProofs [c1E, envP, shapeG]
end

/-! papers: the program's look, to its end -/
section
theorem loopF_first {α : Type} {f : D → Env → RS} {g : α → D} (r : α → Option SV) (P : Env → Prop) : ∀ {xs : List α}, (∀ x ∈ xs, ∀ ρ, P ρ → (∀ v, r x = some v → ∃ ρ', f (g x) ρ = .ok (.rt v ρ')) ∧ (r x = none → ∃ ρ', f (g x) ρ = .ok (.nx ρ') ∧ P ρ')) → ∀ {ρ}, P ρ → (∀ v, xs.findSome? r = some v → ∃ ρ', loopF f (xs.map g) ρ = .ok (.rt v ρ')) ∧ (xs.findSome? r = none → ∃ ρ', loopF f (xs.map g) ρ = .ok (.nx ρ') ∧ P ρ')
  | [], _, ρ, h => ⟨fun v e => by simp at e, fun _ => ⟨ρ, rfl, h⟩⟩
  | x :: xs, e, ρ, h => by
    obtain ⟨q1, q2⟩ := e x List.mem_cons_self ρ h
    rw [List.map_cons]
    unfold loopF
    cases c : r x with
    | some u =>
      obtain ⟨ρ', q⟩ := q1 u c
      rw [q, List.findSome?_cons, c]
      exact ⟨fun v hv => ⟨ρ', by cases hv; rfl⟩, fun hv => nomatch hv⟩
    | none =>
      obtain ⟨ρ', q, h'⟩ := q2 c
      rw [q, List.findSome?_cons, c]
      exact loopF_first r P (fun y hy => e y (List.mem_cons_of_mem _ hy)) h'
theorem firstP_find (f : Dom → D → Option (List Dom)) : ∀ zs : List (Dom × D), firstP f zs = zs.findSome? fun z => (f z.1 z.2).map (z.1 :: ·)
  | [] => rfl
  | (d, q) :: t => by
    unfold firstP
    rw [List.findSome?_cons]
    cases f d q with
    | some w => rfl
    | none => exact firstP_find f t
theorem firstP_len {f : Dom → D → Option (List Dom)} {n : Nat} : ∀ {zs : List (Dom × D)} {w : List Dom}, (∀ z ∈ zs, ∀ w, f z.1 z.2 = some w → w.length ≤ n) → firstP f zs = some w → w.length ≤ n + 1
  | [], w, _, h => by cases h
  | (d, q) :: t, w, hf, h => by
    unfold firstP at h
    split at h
    · rename_i v e
      cases h
      have := hf (d, q) List.mem_cons_self v e
      simp only [List.length_cons]
      omega
    · exact firstP_len (fun z hz => hf z (List.mem_cons_of_mem _ hz)) h
variable (m : Nat) (b : Cell → Nat)
theorem pathS_len : ∀ (n : Nat) (left : List Dom) (gls : List Goal) (p : D) (w : List Dom), pathS m b n left gls p = some w → w.length ≤ n
  | 0, _, _, _, w, h => by cases h; exact Nat.le_refl _
  | n + 1, left, gls, p, w, h => by
    unfold pathS at h
    split at h
    · split at h
      · split at h
        · exact firstP_len (fun z hz w hw => pathS_len n _ _ _ w hw) h
        · cases h; exact Nat.zero_le _
      · cases h; exact Nat.zero_le _
    · cases h; exact Nat.zero_le _
theorem zipD_dom : ∀ (rows : List Dom) (ps : List D), zipD (rows.map enc) ps = (rows.zip ps).map fun z => .tup [enc z.1, z.2]
  | [], _ => by simp [zipD]
  | x :: xs, [] => by simp [zipD]
  | x :: xs, y :: ys => by simp [zipD, zipD_dom xs ys]
def c2E : E := .bi .any [(.comp (.bi (.isi .bool) [(.var 8)]) (.nm 8) (.seq (.idx (.var 3) (.lit (.int 1)))) [] [8])]
theorem c2_ok (Φ : Phi) (L : D) (left : List Dom) (gls : List Goal) (x0 u v x2 : D) (hu : isiOk u = true) (hv : isiOk v = true) : ev Φ c2E (envP L left gls (.tup [x0, .tup [u, v], x2]) none none none none) = .ok (fz (.bl (anyB [u, v]))) := by
  have c : ev Φ (.comp (.bi (.isi .bool) [(.var 8)]) (.nm 8) (.seq (.idx (.var 3) (.lit (.int 1)))) [] [8]) (envP L left gls (.tup [x0, .tup [u, v], x2]) none none none none) = .ok (oL [.bl (isTy .bool u), .bl (isTy .bool v)]) := by
    have iu : isiS .bool (fz u) = some (fz (.bl (isTy .bool u))) := if_pos hu
    have iv : isiS .bool (fz v) = some (fz (.bl (isTy .bool v))) := if_pos hv
    simp -implicitDefEqProofs [envP, -u_isiS, -u_isTy, iu, iv]
  unfold c2E
  rw [ev_bi1 (by decide) (by decide), c]
  show R.ok (fz (.bl (isTy .bool u || (isTy .bool v || false)))) = _
  cases u <;> cases v <;> rfl
theorem rows_ok (Φ : Phi) (left : List Dom) (gls : List Goal) (g : Goal) (hg : g ∈ goals m) (x2 : D) : exs Φ [.asg (.nm 4) (.comp (.var 5) (.nm 5) (.seq (.idx (.att (.var 0) fl_having) (.slc (.var 3) none (some (.lit (.int 2)))))) [(.cmp .in_ (.var 5) (.var 1))] [5]), .frz [4]] (envP (layD m b) left gls (.tup [enc g.1, enc g.2, x2]) none none none none) = .ok (.nx (envP (layD m b) left gls (.tup [enc g.1, enc g.2, x2]) (some (fz (.lst ((rowsOf m b left g).map enc)))) none none none)) := by
  have p1 : ∀ x : Dom, plain 60 (enc x) = true := plE20 (by decide)
  have p2 := plains_map (α := Dom) 60 (by decide)
  have k2 := keyOk_of kt_goal (goals m)
  have cs : cutS (fz (.tup [enc g.1, enc g.2, x2])) none (some 2) = some (fz (enc g)) := rfl
  simp -implicitDefEqProofs [envP, layD, cs, k2, hg, p1, p2, rowsOf]
theorem path_fin (Φ : Phi) (left : List Dom) (gls : List Goal) (g : Goal) (ps : List D) (rows : List Dom) (n : Nat) (hn : n ≤ 1000) (f : Dom → D → Option (List Dom)) (hl : ps.length = rows.length)
    (hf : ∀ z ∈ rows.zip ps, ∀ w, f z.1 z.2 = some w → w.length ≤ n)
    (h1 : ∀ d ∈ rows, Φ n_Laying_going [fz (layD m b), fz (.lst (left.map enc)), fz (enc d)] = .ok (oL ((Cov.going (gs b) left d).map enc)) [])
    (h2 : ∀ d ∈ rows, Φ n_Laying_still [fz (layD m b), fz (.lst (gls.map enc)), fz (enc d)] = .ok (oL ((Cov.still (gs b) gls d).map enc)) [])
    (h3 : ∀ z ∈ rows.zip ps, Φ n__path [fz (layD m b), fz (.lst ((Cov.going (gs b) left z.1).map enc)), fz (.lst ((Cov.still (gs b) gls z.1).map enc)), fz z.2] = .ok (fz (resD (f z.1 z.2))) []) :
    ∃ ρ, exs Φ [.for_ (.tu [(.nm 5), (.nm 6)]) (.zip (.var 4) (.idx (.var 3) (.lit (.int 2)))) bPz, .ret (.lit (.non))] (envP (layD m b) left gls (.tup [enc g.1, enc g.2, .tup ps]) (some (fz (.lst (rows.map enc)))) none none none) = .ok (.rt (fz (resD (firstP f (rows.zip ps)))) ρ) := by
  obtain ⟨ns, vs, hL⟩ := layD_ins m b
  rw [hL] at h1 h2 h3 ⊢
  simp only [c_Laying, n_Laying_going, n_Laying_still, n__path] at h1 h2 h3
  have it : evif Φ (.zip (.var 4) (.idx (.var 3) (.lit (.int 2)))) (envP (.ins c_Laying ns vs) left gls (.tup [enc g.1, enc g.2, .tup ps]) (some (fz (.lst (rows.map enc)))) none none none) = .ok ((rows.zip ps).map fun z => .tup [enc z.1, z.2]) := by
    rw [← zipD_dom, evif_zip]
    show (R.ok (fz (.lst (rows.map enc))) >>= fun s => R.ok (fz (.tup ps)) >>= fun t => R.of (zipS s t)) = _
    rfl
  let P : Env → Prop := fun ρ => ∃ x5 x6 x7, ρ = envP (.ins c_Laying ns vs) left gls (.tup [enc g.1, enc g.2, .tup ps]) (some (fz (.lst (rows.map enc)))) x5 x6 x7
  have lp := loopF_first (f := fun x ρ1 => match bindTg (.tu [(.nm 5), (.nm 6)]) x ρ1 with | none => .bad | some ρ2 => exs Φ bPz ρ2) (g := fun z : Dom × D => .tup [enc z.1, z.2]) (fun z => (f z.1 z.2).map fun w => fz (enc (z.1 :: w))) P (xs := rows.zip ps) (by
    rintro z hz ρ ⟨x5, x6, x7, rfl⟩
    obtain ⟨d, q⟩ := z
    have hd : d ∈ rows := (List.of_mem_zip hz).1
    have bt : bindTg (.tu [(.nm 5), (.nm 6)]) (.tup [enc d, q]) (envP (.ins c_Laying ns vs) left gls (.tup [enc g.1, enc g.2, .tup ps]) (some (fz (.lst (rows.map enc)))) x5 x6 x7) = some (envP (.ins c_Laying ns vs) left gls (.tup [enc g.1, enc g.2, .tup ps]) (some (fz (.lst (rows.map enc)))) (some (fz (enc d))) (some (fz q)) x7) := by
      simp -implicitDefEqProofs [envP]
    have g1 := h1 d hd
    have g2 := h2 d hd
    have g3 := h3 (d, q) hz
    simp only at g3
    simp only [bt]
    generalize Cov.going (gs b) left d = gg at g1 g3
    generalize Cov.still (gs b) gls d = ss at g2 g3
    have cl : ∀ x7, ev Φ (.call n__path [(.var 0), (.meth c_Laying n_Laying_going (.var 0) [(.var 1), (.var 5)]), (.meth c_Laying n_Laying_still (.var 0) [(.var 2), (.var 5)]), (.var 6)]) (envP (.ins c_Laying ns vs) left gls (.tup [enc g.1, enc g.2, .tup ps]) (some (fz (.lst (rows.map enc)))) (some (fz (enc d))) (some (fz q)) x7) = .ok (fz (resD (f d q))) := fun x7 => by
      simp -implicitDefEqProofs [envP, g1, g2, g3]
    constructor
    · intro v hv
      cases c : f d q with
      | none => rw [c] at hv; cases hv
      | some w =>
        rw [c] at hv
        cases hv
        have wl := hf (d, q) hz w c
        have wl1 : w.length + 1 ≤ 16777216 := by omega
        have wl2 : 1 + w.length ≤ 16777216 := by omega
        refine ⟨envP (.ins c_Laying ns vs) left gls (.tup [enc g.1, enc g.2, .tup ps]) (some (fz (.lst (rows.map enc)))) (some (fz (enc d))) (some (fz q)) (some (fz (enc w))), ?_⟩
        have cl' := cl x7
        rw [c] at cl'
        unfold bPz
        rw [exs_cons, ex_asg, cl']
        simp -implicitDefEqProofs [envP, resD, enc_list, wl1, wl2]
    · intro hv
      cases c : f d q with
      | some w => rw [c] at hv; cases hv
      | none =>
        refine ⟨envP (.ins c_Laying ns vs) left gls (.tup [enc g.1, enc g.2, .tup ps]) (some (fz (.lst (rows.map enc)))) (some (fz (enc d))) (some (fz q)) (some (fz .non)), ?_, _, _, _, rfl⟩
        have cl' := cl x7
        rw [c] at cl'
        unfold bPz
        rw [exs_cons, ex_asg, cl']
        simp -implicitDefEqProofs [envP, resD]) (ρ := envP (.ins c_Laying ns vs) left gls (.tup [enc g.1, enc g.2, .tup ps]) (some (fz (.lst (rows.map enc)))) none none none) ⟨none, none, none, rfl⟩
  obtain ⟨l1, l2⟩ := lp
  rw [exs_cons, ex_for, it, RS.of_ok, firstP_find]
  have fs : (rows.zip ps).findSome? (fun z => (f z.1 z.2).map fun w => fz (enc (z.1 :: w))) = ((rows.zip ps).findSome? fun z => (f z.1 z.2).map (z.1 :: ·)).map fun w => fz (enc w) := by
    induction rows.zip ps with
    | nil => rfl
    | cons z zs ih =>
      rw [List.findSome?_cons, List.findSome?_cons]
      cases f z.1 z.2 with
      | none => exact ih
      | some w => rfl
  cases c : (rows.zip ps).findSome? fun z => (f z.1 z.2).map (z.1 :: ·) with
  | some w =>
    obtain ⟨ρ', q⟩ := l1 (fz (enc w)) (by rw [fs, c]; rfl)
    exact ⟨ρ', (congrArg (fun r => RS.seq r fun ρ' => exs Φ [S.ret (.lit .non)] ρ') q).trans rfl⟩
  | none =>
    obtain ⟨ρ', q, x5, x6, x7, rfl⟩ := l2 (by rw [fs, c]; rfl)
    refine ⟨envP (.ins c_Laying ns vs) left gls (.tup [enc g.1, enc g.2, .tup ps]) (some (fz (.lst (rows.map enc)))) x5 x6 x7, (congrArg (fun r => RS.seq r fun ρ' => exs Φ [S.ret (.lit .non)] ρ') q).trans ?_⟩
    simp -implicitDefEqProofs [resD]
end

/-! papers: the program's look, whole -/
section
theorem ret_nil (Φ : Phi) (ρ : Env) : exs Φ [.ret (.tup [])] ρ = .ok (.rt (fz (.tup [])) ρ) := by simp -implicitDefEqProofs
theorem if_tt {Φ : Phi} {e : E} {ρ : Env} {ss : List S} {v : SV} {ρ' : Env} (h1 : ev Φ e ρ = .ok (fz (.bl true))) (h2 : exs Φ ss ρ = .ok (.rt v ρ')) : exs Φ [.if_ e ss []] ρ = .ok (.rt v ρ') := by
  rw [exs_cons, ex_if, h1, R.ok_bind, boolS_bl, RS.of_ok, if_pos rfl, h2, RS.seq_rt]
theorem if_ff {Φ : Phi} {e : E} {ρ : Env} {ss : List S} (h1 : ev Φ e ρ = .ok (fz (.bl false))) : exs Φ [.if_ e ss []] ρ = .ok (.nx ρ) := by
  rw [exs_cons, ex_if, h1, R.ok_bind, boolS_bl, RS.of_ok, if_neg (by simp), exs_nil, RS.seq_nx, exs_nil]
variable (m : Nat) (b : Cell → Nat)
theorem shape_tup {p : D} (h : isShape p = true) : ∃ x0 x1 ps, p = .tup [x0, x1, .tup ps] := by
  unfold isShape at h
  split at h
  · exact ⟨_, _, _, rfl⟩
  · cases h
theorem shapeG_shape {gls : List Goal} {p : D} (h : shapeG gls p = true) : isShape p = true := by
  unfold shapeG at h
  split at h
  · rfl
  · cases h
theorem path_off (Φ : Phi) (L : D) (left : List Dom) (gls : List Goal) (p : D) (hp : plain 60 p = true) (h : shapeG gls p = false) : runFn Φ i__path [fz L, fz (.lst (left.map enc)), fz (.lst (gls.map enc)), fz p] = .ok (fz (.tup [])) [] := by
  have c := c1_ok Φ L left gls p hp
  rw [h] at c
  refine runFn_rt (ρ0 := envP L left gls p none none none none) (ρ := envP L left gls p none none none none) (ss := []) rfl rfl rfl ?_ rfl
  show exs Φ b__path _ = _
  rw [path_body, exs_append, if_tt c (ret_nil Φ _), RS.seq_rt]
theorem path_bool (Φ : Phi) (L : D) (left : List Dom) (gls : List Goal) (x0 u v : D) (ps : List D) (hp : plain 60 (.tup [x0, .tup [u, v], .tup ps]) = true) (h : shapeG gls (.tup [x0, .tup [u, v], .tup ps]) = true) (hb : anyB [u, v] = true) : runFn Φ i__path [fz L, fz (.lst (left.map enc)), fz (.lst (gls.map enc)), fz (.tup [x0, .tup [u, v], .tup ps])] = .ok (fz (.tup [])) [] := by
  have c := c1_ok Φ L left gls _ hp
  rw [h] at c
  obtain ⟨_, p1, _⟩ := plain_3 hp
  have p1 : plains 58 [u, v] = true := p1
  simp only [plains, Bool.and_true, Bool.and_eq_true] at p1
  have c2 := c2_ok Φ L left gls x0 u v (.tup ps) (plain_isi p1.1) (plain_isi p1.2)
  rw [hb] at c2
  refine runFn_rt (ρ0 := envP L left gls (.tup [x0, .tup [u, v], .tup ps]) none none none none) (ρ := envP L left gls (.tup [x0, .tup [u, v], .tup ps]) none none none none) (ss := []) rfl rfl rfl ?_ rfl
  show exs Φ b__path _ = _
  rw [path_body, exs_append, if_ff c, RS.seq_nx, exs_append]
  show RS.seq (exs Φ [.if_ c2E [.ret (.tup [])] []] _) _ = _
  rw [if_tt c2 (ret_nil Φ _), RS.seq_rt]
theorem path_on (Φ : Phi) (left : List Dom) (gls : List Goal) (g : Goal) (ps : List D) (hg : g ∈ gls) (hg2 : g ∈ goals m) (hp : plain 60 (.tup [enc g.1, enc g.2, .tup ps]) = true) (n : Nat) (hn : n ≤ 1000) (f : Dom → D → Option (List Dom))
    (hf : ∀ z ∈ (rowsOf m b left g).zip ps, ∀ w, f z.1 z.2 = some w → w.length ≤ n)
    (h1 : ∀ d ∈ rowsOf m b left g, Φ n_Laying_going [fz (layD m b), fz (.lst (left.map enc)), fz (enc d)] = .ok (oL ((Cov.going (gs b) left d).map enc)) [])
    (h2 : ∀ d ∈ rowsOf m b left g, Φ n_Laying_still [fz (layD m b), fz (.lst (gls.map enc)), fz (enc d)] = .ok (oL ((Cov.still (gs b) gls d).map enc)) [])
    (h3 : ∀ z ∈ (rowsOf m b left g).zip ps, Φ n__path [fz (layD m b), fz (.lst ((Cov.going (gs b) left z.1).map enc)), fz (.lst ((Cov.still (gs b) gls z.1).map enc)), fz z.2] = .ok (fz (resD (f z.1 z.2))) []) :
    runFn Φ i__path [fz (layD m b), fz (.lst (left.map enc)), fz (.lst (gls.map enc)), fz (.tup [enc g.1, enc g.2, .tup ps])] = .ok (fz (if ps.length = (rowsOf m b left g).length then resD (firstP f ((rowsOf m b left g).zip ps)) else .tup [])) [] := by
  have c := c1_ok Φ (layD m b) left gls _ hp
  have sh : shapeG gls (.tup [enc g.1, enc g.2, .tup ps]) = true := by
    show inList (.tup [enc g.1, enc g.2]) (gls.map enc) = true
    rw [inList_goal, List.any_eq_true]
    exact ⟨g, hg, by rw [Enc.eqE, Enc.eqE]; simp⟩
  rw [sh] at c
  have c2 := c2_ok Φ (layD m b) left gls (enc g.1) (.int g.2.1) (.int g.2.2) (.tup ps) rfl rfl
  have e2 : (enc g.2 : D) = .tup [.int g.2.1, .int g.2.2] := rfl
  rw [← e2] at c2
  have c3 := rows_ok m b Φ left gls g hg2 (.tup ps)
  have c4 : ev Φ (.cmp .ne (.bi .len [(.idx (.var 3) (.lit (.int 2)))]) (.bi .len [(.var 4)])) (envP (layD m b) left gls (.tup [enc g.1, enc g.2, .tup ps]) (some (fz (.lst ((rowsOf m b left g).map enc)))) none none none) = .ok (fz (.bl (decide (ps.length ≠ (rowsOf m b left g).length)))) := by
    generalize rowsOf m b left g = rr
    by_cases q : ps.length = rr.length
    · simp -implicitDefEqProofs [envP, q]
    · have q' : ¬ (ps.length : Int) = (rr.length : Int) := by omega
      simp -implicitDefEqProofs [envP, q, q']
  by_cases q : ps.length = (rowsOf m b left g).length
  · rw [if_pos q]
    rw [decide_eq_false (by simpa using q)] at c4
    obtain ⟨ρ, c5⟩ := path_fin m b Φ left gls g ps (rowsOf m b left g) n hn f q hf h1 h2 h3
    refine runFn_rt (ρ0 := envP (layD m b) left gls (.tup [enc g.1, enc g.2, .tup ps]) none none none none) (ρ := ρ) (ss := []) rfl rfl rfl ?_ rfl
    show exs Φ b__path _ = _
    rw [path_body, exs_append, if_ff c, RS.seq_nx, exs_append]
    show RS.seq (exs Φ [.if_ c2E [.ret (.tup [])] []] _) _ = _
    rw [if_ff c2, RS.seq_nx, exs_append, c3, RS.seq_nx, exs_append, if_ff c4, RS.seq_nx]
    exact c5
  · rw [if_neg q]
    rw [decide_eq_true (by simpa using q)] at c4
    refine runFn_rt (ρ0 := envP (layD m b) left gls (.tup [enc g.1, enc g.2, .tup ps]) none none none none) (ss := []) rfl rfl rfl (ρ := envP (layD m b) left gls (.tup [enc g.1, enc g.2, .tup ps]) (some (fz (.lst ((rowsOf m b left g).map enc)))) none none none) ?_ rfl
    show exs Φ b__path _ = _
    rw [path_body, exs_append, if_ff c, RS.seq_nx, exs_append]
    show RS.seq (exs Φ [.if_ c2E [.ret (.tup [])] []] _) _ = _
    rw [if_ff c2, RS.seq_nx, exs_append, c3, RS.seq_nx, exs_append, if_tt c4 (ret_nil Φ _), RS.seq_rt]
theorem plains_mem {n : Nat} : ∀ {ds : List D}, plains n ds = true → ∀ d ∈ ds, plain n d = true
  | [], _, d, h => by cases h
  | x :: xs, h, d, hd => by
    simp only [plains, Bool.and_eq_true] at h
    rcases List.mem_cons.mp hd with rfl | hd
    · exact h.1
    · exact plains_mem h.2 d hd
theorem pathS_bad {n : Nat} {left : List Dom} {gls : List Goal} {x0 x1 : D} {ps : List D} (h : ∀ g, goalQ x0 x1 = some g → g ∉ gls) : pathS m b n left gls (.tup [x0, x1, .tup ps]) = some [] := by
  cases n with
  | zero => rfl
  | succ n =>
    unfold pathS
    show (match goalQ x0 x1 with | some g => _ | none => _) = _
    cases c : goalQ x0 x1 with
    | none => rfl
    | some g => exact if_neg fun q => h g c q.1
theorem path_M (h4 : m ≤ 4) (k : Nat) : ∀ (n : Nat) (left : List Dom) (gls : List Goal) (p : D), plain (2 * n) p = true → 2 * n ≤ 60 → (∀ d ∈ left, d ∈ places m) → (∀ g ∈ gls, g ∈ goals m) → M prog (k + n + 2) n__path [fz (layD m b), fz (.lst (left.map enc)), fz (.lst (gls.map enc)), fz p] = .ok (fz (resD (pathS m b n left gls p))) [] := by
  intro n
  induction n with
  | zero =>
    intro left gls p hp _ _ _
    have hs : isShape p = false := by
      cases c : isShape p with
      | false => rfl
      | true =>
        obtain ⟨x0, x1, ps, rfl⟩ := shape_tup c
        cases hp
    have hs2 : shapeG gls p = false := by
      cases c : shapeG gls p with
      | false => rfl
      | true => rw [shapeG_shape c] at hs; cases hs
    rw [M_succ (h := rfl), path_off _ _ left gls p (plain_le (by omega) hp) hs2]
    rfl
  | succ n ih =>
    intro left gls p hp hn hu hv
    have hp60 : plain 60 p = true := plain_le hn hp
    rw [M_succ (h := rfl)]
    cases c : shapeG gls p with
    | false =>
      rw [path_off _ _ left gls p hp60 c]
      cases hs : isShape p with
      | false => rw [pathS_off m b hs]; rfl
      | true =>
        obtain ⟨x0, x1, ps, rfl⟩ := shape_tup hs
        rw [pathS_bad m b fun g => not_among c]
        rfl
    | true =>
      obtain ⟨x0, x1, ps, rfl⟩ := shape_tup (shapeG_shape c)
      obtain ⟨u, v, rfl, hh⟩ := among (show inList (.tup [x0, x1]) (gls.map enc) = true from c)
      rcases hh with ⟨_, g, hg, e⟩ | ⟨hb, e⟩
      · obtain ⟨e0, e1⟩ := goalQ_some e
        have hpp := hp
        rw [e0, e1] at hp hp60 ⊢
        have hps : ∀ q ∈ ps, plain (2 * n) q = true := by
          have : plains (2 * n) ps = true := by
            have q := (plain_3 (n := 2 * n + 1) hp).2.2
            exact q
          exact plains_mem this
        have hr : ∀ d ∈ rowsOf m b left g, d ∈ left := fun d hd => by simpa [rowsOf] using (List.mem_filter.mp hd).2
        rw [path_on m b (M prog (k + (n + 1) + 1)) left gls g ps hg (hv g hg) hp60 n (by omega) (fun d q => pathS m b n (Cov.going (gs b) left d) (Cov.still (gs b) gls d) q) (fun z hz w hw => pathS_len m b n _ _ _ w hw) (fun d hd => by
          rw [M_succ (h := rfl)]
          exact going_ok _ _ _ (hu d (hr d hd)) hu) (fun d hd => by
          rw [M_succ (h := rfl)]
          exact still_ok _ _ _ (hu d (hr d hd))) (fun z hz => ih _ _ _ (hps _ (List.of_mem_zip hz).2) (by omega) (fun x hx => hu x (Cov.mem_going.mp hx).1) (fun x hx => hv x (Cov.mem_still.mp hx).1))]
        have sp : pathS m b (n + 1) left gls (.tup [enc g.1, enc g.2, .tup ps]) = if ps.length = (rowsOf m b left g).length then firstP (fun d q => pathS m b n (Cov.going (gs b) left d) (Cov.still (gs b) gls d) q) ((rowsOf m b left g).zip ps) else some [] := by
          have q : goalQ (enc g.1) (enc g.2) = some g := goalQ_enc g
          show (match goalQ (enc g.1) (enc g.2) with | some g => _ | none => _) = _
          rw [q]
          simp [hg]
        rw [sp]
        split <;> rfl
      · rw [path_bool _ _ left gls x0 u v ps hp60 c hb, pathS_bad m b (fun g q => by rw [e] at q; cases q)]
        rfl
end

/-! papers: the law's look, its parts -/
section
variable (m : Nat) (b : Cell → Nat)
theorem law_goals_ok (Φ : Phi) (d : Dom) (hp : Φ n__law_pair [fz (boardD m b), fz (enc d)] = .ok (fz (enc (pairOf b d))) []) : runFn Φ i__law_goals [fz (boardD m b), fz (enc d)] = .ok (oL ((gs b d).map enc)) [] := by
  simp only [n__law_pair] at hp
  have e : (gs b d).map enc = [D.tup [.str sCell, enc d.1], .tup [.str sCell, enc d.2], .tup [.str sPair, enc (pairOf b d)]] := rfl
  rw [e]
  have i0 : idxS (fz (enc d)) (.int 0) = some (fz (enc d.1)) := rfl
  have i1 : idxS (fz (enc d)) (.int 1) = some (fz (enc d.2)) := rfl
  simp -implicitDefEqProofs [i__law_goals, b__law_goals, hp, i0, i1]
  first | rfl | exact ⟨rfl, rfl⟩ | exact ⟨rfl, rfl, rfl⟩
theorem or_bl {Φ : Phi} {e f : E} {ρ : Env} {x y : Bool} (h1 : ev Φ e ρ = .ok (fz (.bl x))) (h2 : ev Φ f ρ = .ok (fz (.bl y))) : ev Φ (.or e f) ρ = .ok (fz (.bl (x || y))) := by
  rw [ev_or', h1, R.ok_bind, boolS_bl, R.ok_bind]
  cases x with
  | true => rfl
  | false => exact h2
theorem and_bl {Φ : Phi} {e f : E} {ρ : Env} {x y : Bool} (h1 : ev Φ e ρ = .ok (fz (.bl x))) (h2 : ev Φ f ρ = .ok (fz (.bl y))) : ev Φ (.and e f) ρ = .ok (fz (.bl (x && y))) := by
  rw [ev_and', h1, R.ok_bind, boolS_bl, R.ok_bind]
  cases x with
  | true => exact h2
  | false => rfl
theorem not_bl {Φ : Phi} {e : E} {ρ : Env} {x : Bool} (h1 : ev Φ e ρ = .ok (fz (.bl x))) : ev Φ (.not e) ρ = .ok (fz (.bl (!x))) := by
  rw [ev_not', h1]
  rfl
def envW (left : List Dom) (dn : List Goal) (p : D) (x4 x5 x6 x7 x8 x9 : Option SV) : Env := [some (fz (boardD m b)), some (fz (.lst (left.map enc))), some (fz (.lst (dn.map enc))), some (fz p), x4, x5, x6, x7, x8, x9, none, none, none, none]
def w1E : E := .or (.not (.bi (.isi .tuple) [(.var 3)])) (.or (.cmp .ne (.bi .len [(.var 3)]) (.lit (.int 3))) (.or (.not (.bi (.isi .tuple) [(.idx (.var 3) (.lit (.int 1)))])) (.or (.cmp .ne (.bi .len [(.idx (.var 3) (.lit (.int 1)))]) (.lit (.int 2))) (.not (.bi (.isi .tuple) [(.idx (.var 3) (.lit (.int 2)))])))))
def w2E : E := .or (.not (.bi .all [(.comp (.and (.bi (.isi .int) [(.var 12)]) (.and (.not (.bi (.isi .bool) [(.var 12)])) (.cmp .ge (.var 12) (.lit (.int 0))))) (.nm 12) (.seq (.idx (.var 3) (.lit (.int 1)))) [] [12])])) (.cmp .in_ (.slc (.var 3) none (some (.lit (.int 2)))) (.var 2))
def w3E : E := .or (.and (.cmp .eq (.idx (.var 3) (.lit (.int 0))) (.lit (.str [99, 101, 108, 108]))) (.or (.cmp .gt (.idx (.idx (.var 3) (.lit (.int 1))) (.lit (.int 0))) (.var 4)) (.cmp .gt (.idx (.idx (.var 3) (.lit (.int 1))) (.lit (.int 1))) (.bin .add (.var 4) (.lit (.int 1)))))) (.or (.and (.cmp .eq (.idx (.var 3) (.lit (.int 0))) (.lit (.str [112, 97, 105, 114]))) (.cmp .nin (.idx (.var 3) (.lit (.int 1))) (.call n__law_pairs [(.var 4)]))) (.cmp .nin (.idx (.var 3) (.lit (.int 0))) (.tup [(.lit (.str [99, 101, 108, 108])), (.lit (.str [112, 97, 105, 114]))])))
def bWz : List S := [.asg (.nm 7) (.call n__law_goals [(.var 0), (.idx (.var 5) (.var 6))]), .frz [7], .asg (.nm 8) (.comp (.var 11) (.nm 11) (.seq (.var 1)) [(.not (.bi .any [(.comp (.cmp .in_ (.var 13) (.var 7)) (.nm 13) (.seq (.call n__law_goals [(.var 0), (.var 11)])) [] [13])]))] [11]), .frz [8], .asg (.nm 9) (.call n__law_path [(.var 0), (.var 8), (.bin .add (.var 2) (.var 7)), (.idx (.idx (.var 3) (.lit (.int 2))) (.var 6))]), .frz [9], .if_ (.cmp .isn (.var 9) (.lit (.non))) [.ret (.bin .add (.tup [(.idx (.var 5) (.var 6))]) (.var 9))] []]
theorem wpath_body : b__law_path = [.asg (.nm 4) (.bin .sub (.bi .len [(.var 0)]) (.lit (.int 1)))] ++ ([.if_ w1E [.ret (.tup [])] []] ++ ([.if_ w2E [.ret (.tup [])] []] ++ ([.if_ w3E [.ret (.tup [])] []] ++ ([.asg (.nm 5) (.comp (.var 10) (.nm 10) (.seq (.var 1)) [(.cmp .in_ (.slc (.var 3) none (some (.lit (.int 2)))) (.call n__law_goals [(.var 0), (.var 10)]))] [10]), .frz [5]] ++ ([.if_ (.cmp .ne (.bi .len [(.var 5)]) (.bi .len [(.idx (.var 3) (.lit (.int 2)))])) [.ret (.tup [])] []] ++ [.for_ (.nm 6) (.rng [(.bi .len [(.var 5)])]) bWz, .ret (.lit (.non))]))))) := rfl
def eM4 (m : Nat) : Option SV := some (fz (.int m))
def sh1 : D → Bool
  | .tup [_, .tup [_, _], .tup _] => true
  | _ => false
theorem w0_ok (Φ : Phi) (left : List Dom) (dn : List Goal) (p : D) : exs Φ [.asg (.nm 4) (.bin .sub (.bi .len [(.var 0)]) (.lit (.int 1)))] (envW m b left dn p none none none none none none) = .ok (.nx (envW m b left dn p (eM4 m) none none none none none)) := by
  have bl : lenS (fz (boardD m b)) = some (fz (.int (m + 1))) := by simp [boardD]
  have e2 : (m : Int) + 1 - 1 = m := by omega
  simp -implicitDefEqProofs [envW, -u_lenS, bl, e2, eM4]
theorem w1_tup (Φ : Phi) (left : List Dom) (dn : List Goal) (x0 x1 x2 : D) (h1 : isiOk x1 = true) (h2 : isiOk x2 = true) : ev Φ w1E (envW m b left dn (.tup [x0, x1, x2]) (eM4 m) none none none none none) = .ok (fz (.bl (!sh1 (.tup [x0, x1, x2])))) := by
  have i1 : isiS .tuple (fz x1) = some (fz (.bl (isTy .tuple x1))) := if_pos h1
  have i2 : isiS .tuple (fz x2) = some (fz (.bl (isTy .tuple x2))) := if_pos h2
  cases x1 with
  | tup xs =>
    match xs with
    | [] => simp -implicitDefEqProofs [w1E, envW, sh1]
    | [_] => simp -implicitDefEqProofs [w1E, envW, sh1]
    | x :: y :: z :: t =>
      have n3 : ¬ ((t.length : Int) + 1 + 1 + 1 = 2) := by omega
      simp -implicitDefEqProofs [w1E, envW, sh1, n3]
    | [u, v] =>
      cases x2 with
      | tup ps => simp -implicitDefEqProofs [w1E, envW, sh1]
      | dct _ _ => cases h2
      | ins _ _ _ => cases h2
      | scr _ => cases h2
      | _ => simp -implicitDefEqProofs [w1E, envW, sh1]
  | dct _ _ => cases h1
  | ins _ _ _ => cases h1
  | scr _ => cases h1
  | _ => simp -implicitDefEqProofs [w1E, envW, sh1]
theorem w1_ok (Φ : Phi) (left : List Dom) (dn : List Goal) (p : D) (hp : plain 60 p = true) : ev Φ w1E (envW m b left dn p (eM4 m) none none none none none) = .ok (fz (.bl (!sh1 p))) := by
  cases p with
  | tup xs =>
    match xs with
    | [] => simp -implicitDefEqProofs [w1E, envW, sh1]
    | [_] => simp -implicitDefEqProofs [w1E, envW, sh1]
    | [_, _] => simp -implicitDefEqProofs [w1E, envW, sh1]
    | x :: y :: z :: w :: t =>
      have n3 : ¬ ((t.length : Int) + 1 + 1 + 1 + 1 = 3) := by omega
      simp -implicitDefEqProofs [w1E, envW, sh1, n3]
    | [x0, x1, x2] =>
      obtain ⟨p0, p1, p2⟩ := plain_3 hp
      exact w1_tup m b Φ left dn x0 x1 x2 (plain_isi p1) (plain_isi p2)
  | dct _ _ => simp [plain] at hp
  | ins _ _ _ => simp [plain] at hp
  | scr _ => simp [plain] at hp
  | _ => simp -implicitDefEqProofs [w1E, envW, sh1]
def nn : D → Bool
  | .int i => decide (0 ≤ i)
  | _ => false
theorem nn_ok (Φ : Phi) (ρ : Env) (u : D) (hu : isiOk u = true) (h : ρ[12]? = some (some (fz u))) : ev Φ (.and (.bi (.isi .int) [(.var 12)]) (.and (.not (.bi (.isi .bool) [(.var 12)])) (.cmp .ge (.var 12) (.lit (.int 0))))) ρ = .ok (fz (.bl (nn u))) := by
  cases u <;> first | (cases hu; done) | simp -implicitDefEqProofs [h, nn]
theorem nns_ok (Φ : Phi) (left : List Dom) (dn : List Goal) (x0 u v x2 : D) (hu : isiOk u = true) (hv : isiOk v = true) : ev Φ (.bi .all [(.comp (.and (.bi (.isi .int) [(.var 12)]) (.and (.not (.bi (.isi .bool) [(.var 12)])) (.cmp .ge (.var 12) (.lit (.int 0))))) (.nm 12) (.seq (.idx (.var 3) (.lit (.int 1)))) [] [12])]) (envW m b left dn (.tup [x0, .tup [u, v], x2]) (eM4 m) none none none none none) = .ok (fz (.bl (nn u && nn v))) := by
  have c : ev Φ (.comp (.and (.bi (.isi .int) [(.var 12)]) (.and (.not (.bi (.isi .bool) [(.var 12)])) (.cmp .ge (.var 12) (.lit (.int 0))))) (.nm 12) (.seq (.idx (.var 3) (.lit (.int 1)))) [] [12]) (envW m b left dn (.tup [x0, .tup [u, v], x2]) (eM4 m) none none none none none) = .ok (oL [.bl (nn u), .bl (nn v)]) := by
    refine ev_compm (enc := id) (xs := [u, v]) (g := fun d => .bl (nn d)) ?_ fun d hd => ?_
    · rw [List.map_id]
      simp -implicitDefEqProofs [envW]
    · have hd' : isiOk d = true := by
        simp only [List.mem_cons, List.not_mem_nil, or_false] at hd
        rcases hd with rfl | rfl
        · exact hu
        · exact hv
      exact turnC_ok (ρ := [some (fz (boardD m b)), some (fz (.lst (left.map enc))), some (fz (.lst (dn.map enc))), some (fz (.tup [x0, .tup [u, v], x2])), eM4 m, none, none, none, none, none, none, none, some (fz d), none]) (s := fz (.bl (nn d))) (by simp [envW]) evt_nil (nn_ok Φ _ d hd' rfl) rfl
  rw [ev_bi1 (by decide) (by decide), c]
  show R.ok (fz (.bl (nn u && (nn v && true)))) = _
  rw [Bool.and_true]
theorem w2_ok (Φ : Phi) (left : List Dom) (dn : List Goal) (x0 u v x2 : D) (hp : plain 60 (.tup [x0, .tup [u, v], x2]) = true) : ev Φ w2E (envW m b left dn (.tup [x0, .tup [u, v], x2]) (eM4 m) none none none none none) = .ok (fz (.bl (!(nn u && nn v) || inList (.tup [x0, .tup [u, v]]) (dn.map enc)))) := by
  obtain ⟨p0, p1, p2⟩ := plain_3 hp
  have q1 : plains 58 [u, v] = true := p1
  simp only [plains, Bool.and_true, Bool.and_eq_true] at q1
  have a := nns_ok m b Φ left dn x0 u v x2 (plain_isi q1.1) (plain_isi q1.2)
  have pp := plain_2 p0 p1
  have pg := plains_map (α := Goal) 60 (by decide) dn
  have cs : cutS (fz (.tup [x0, .tup [u, v], x2])) none (some 2) = some (fz (.tup [x0, .tup [u, v]])) := rfl
  have i : ev Φ (.cmp .in_ (.slc (.var 3) none (some (.lit (.int 2)))) (.var 2)) (envW m b left dn (.tup [x0, .tup [u, v], x2]) (eM4 m) none none none none none) = .ok (fz (.bl (inList (.tup [x0, .tup [u, v]]) (dn.map enc)))) := by
    simp -implicitDefEqProofs [envW, cs, pp, pg]
  exact or_bl (not_bl a) i
theorem cmp_str {x0 : D} (hp : plain 60 x0 = true) (s : List Nat) : cmpD .eq x0 (.str s) = some (eqD x0 (.str s)) := by
  have : cmpV .eq x0 (.str s) = some (eqD x0 (.str s)) := by
    show (if (plain 60 x0 && plain 60 (.str s)) = true then some (eqD x0 (.str s)) else none) = _
    rw [hp]
    rfl
  cases x0 <;> exact this
end

/-! papers: the law's look, goals -/
section
variable (m : Nat) (b : Cell → Nat)
def inP (m : Nat) (c : Cell) : Bool := inList (enc c) ((pairs m).map enc)
def W3 (m : Nat) (x0 : D) (c : Cell) : Bool := (eqD x0 (.str sCell) && (decide (m < c.1) || decide (m + 1 < c.2))) || ((eqD x0 (.str sPair) && !inP m c) || !inList x0 [.str sCell, .str sPair])
theorem w3_ok (Φ : Phi) (left : List Dom) (dn : List Goal) (x0 : D) (c : Cell) (x2 : D) (hp : plain 60 x0 = true) (hq : Φ n__law_pairs [fz (.int m)] = .ok (fz (.lst ((pairs m).map enc))) []) : ev Φ w3E (envW m b left dn (.tup [x0, enc c, x2]) (eM4 m) none none none none none) = .ok (fz (.bl (W3 m x0 c))) := by
  simp only [n__law_pairs] at hq
  have i0 : ev Φ (.idx (.var 3) (.lit (.int 0))) (envW m b left dn (.tup [x0, enc c, x2]) (eM4 m) none none none none none) = .ok (fz x0) := by simp -implicitDefEqProofs [envW]
  have i1 : ev Φ (.idx (.var 3) (.lit (.int 1))) (envW m b left dn (.tup [x0, enc c, x2]) (eM4 m) none none none none none) = .ok (fz (enc c)) := by simp -implicitDefEqProofs [envW]
  have st : ∀ s : List Nat, ev Φ (.cmp .eq (.idx (.var 3) (.lit (.int 0))) (.lit (.str s))) (envW m b left dn (.tup [x0, enc c, x2]) (eM4 m) none none none none none) = .ok (fz (.bl (eqD x0 (.str s)))) := fun s => by
    rw [ev_cmp, i0, R.ok_bind, ev_lit, R.ok_bind]
    show (R.of (cmpD .eq x0 (.str s)) >>= fun c => R.ok (fz (.bl c))) = _
    rw [cmp_str hp]
    rfl
  have n0 : ev Φ (.cmp .gt (.idx (.idx (.var 3) (.lit (.int 1))) (.lit (.int 0))) (.var 4)) (envW m b left dn (.tup [x0, enc c, x2]) (eM4 m) none none none none none) = .ok (fz (.bl (decide (m < c.1)))) := by
    have e : decide ((m : Int) < (c.1 : Int)) = decide (m < c.1) := by rw [Bool.eq_iff_iff, decide_eq_true_eq, decide_eq_true_eq]; omega
    have q : idxS (fz (enc c)) (.int 0) = some (fz (.int c.1)) := rfl
    rw [ev_cmp, ev_idx, i1]
    rw [← e]
    simp -implicitDefEqProofs [q, envW, eM4, -idx_prod0]
  have n1 : ev Φ (.cmp .gt (.idx (.idx (.var 3) (.lit (.int 1))) (.lit (.int 1))) (.bin .add (.var 4) (.lit (.int 1)))) (envW m b left dn (.tup [x0, enc c, x2]) (eM4 m) none none none none none) = .ok (fz (.bl (decide (m + 1 < c.2)))) := by
    have e : decide ((m : Int) + 1 < (c.2 : Int)) = decide (m + 1 < c.2) := by rw [Bool.eq_iff_iff, decide_eq_true_eq, decide_eq_true_eq]; omega
    have q : idxS (fz (enc c)) (.int 1) = some (fz (.int c.2)) := rfl
    rw [ev_cmp, ev_idx, i1]
    rw [← e]
    simp -implicitDefEqProofs [q, envW, eM4, -idx_prod1]
  have pp : ev Φ (.cmp .nin (.idx (.var 3) (.lit (.int 1))) (.call n__law_pairs [(.var 4)])) (envW m b left dn (.tup [x0, enc c, x2]) (eM4 m) none none none none none) = .ok (fz (.bl (!inP m c))) := by
    have l : ev Φ (.call n__law_pairs [(.var 4)]) (envW m b left dn (.tup [x0, enc c, x2]) (eM4 m) none none none none none) = .ok (fz (.lst ((pairs m).map enc))) := by simp -implicitDefEqProofs [envW, eM4, hq]
    have p1 : plain 60 (enc c) = true := plE20 (by decide) c
    have p2 := plains_map (α := Cell) 60 (by decide) (pairs m)
    rw [ev_cmp, i1, R.ok_bind, l, R.ok_bind]
    show (R.of ((if (plain 60 (enc c) && plains 60 ((pairs m).map enc)) = true then some (inList (enc c) ((pairs m).map enc)) else none).map (!·)) >>= fun c => R.ok (fz (.bl c))) = _
    rw [p1, p2]
    rfl
  have tt : ev Φ (.cmp .nin (.idx (.var 3) (.lit (.int 0))) (.tup [(.lit (.str [99, 101, 108, 108])), (.lit (.str [112, 97, 105, 114]))])) (envW m b left dn (.tup [x0, enc c, x2]) (eM4 m) none none none none none) = .ok (fz (.bl (!inList x0 [.str sCell, .str sPair]))) := by
    have l : ev Φ (.tup [(.lit (.str [99, 101, 108, 108])), (.lit (.str [112, 97, 105, 114]))]) (envW m b left dn (.tup [x0, enc c, x2]) (eM4 m) none none none none none) = .ok (fz (.tup [.str sCell, .str sPair])) := by
      simp -implicitDefEqProofs
      exact ⟨rfl, rfl⟩
    rw [ev_cmp, i0, R.ok_bind, l, R.ok_bind]
    show (R.of ((if (plain 60 x0 && plains 60 [.str sCell, .str sPair]) = true then some (inList x0 [.str sCell, .str sPair]) else none).map (!·)) >>= fun c => R.ok (fz (.bl c))) = _
    rw [hp]
    rfl
  exact or_bl (and_bl (st _) (or_bl n0 n1)) (or_bl (and_bl (st _) pp) tt)
theorem inL_iff {α : Type} [DecidableEq α] [Enc α] (x : α) (ys : List α) : inList (enc x) (ys.map enc) = true ↔ x ∈ ys := by
  rw [inList_map]
  exact decide_eq_true_iff
theorem inP_iff {c : Cell} : inP m c = true ↔ c ∈ pairs m := inL_iff c (pairs m)
theorem goal_str {s : List Nat} (c : Cell) : goalQ (.str s) (enc c) = if s = sCell then some (.cell, c) else if s = sPair then some (.pair, c) else none := by
  have e : (enc c : D) = .tup [.int c.1, .int c.2] := rfl
  have h : (0 : Int) ≤ (c.1 : Int) ∧ (0 : Int) ≤ (c.2 : Int) := by omega
  rw [e]
  unfold goalQ
  simp only [h, and_self, if_true, Int.toNat_natCast]
theorem goal_non {x0 : D} (c : Cell) (h : ∀ s, x0 ≠ .str s) : goalQ x0 (enc c) = none := by
  cases x0 <;> first | rfl | exact absurd rfl (h _)
theorem W3_non {x0 : D} (c : Cell) (h : ∀ s, x0 ≠ .str s) : W3 m x0 c = true := by
  unfold W3
  have e1 : inList x0 [.str sCell, .str sPair] = false := by cases x0 <;> first | rfl | exact absurd rfl (h _)
  rw [e1]
  simp
theorem str_of (x0 : D) : (∃ s, x0 = .str s) ∨ ∀ s, x0 ≠ .str s := by
  cases x0 <;> first | exact .inl ⟨_, rfl⟩ | exact .inr fun s => nofun
theorem W3_str {s : List Nat} (c : Cell) : W3 m (.str s) c = if s = sCell then (decide (m < c.1) || decide (m + 1 < c.2)) else if s = sPair then !inP m c else true := by
  have a : ∀ t, eqD (.str s) (.str t) = decide (s = t) := fun t => by
    simp only [eqD]
    rw [Bool.eq_iff_iff]
    simp
  have i : inList (.str s) [.str sCell, .str sPair] = (decide (s = sCell) || decide (s = sPair)) := by
    show ((eqD (.str sCell) (.str s)) || (eqD (.str sPair) (.str s) || false)) = _
    have a' : ∀ t, eqD (.str t) (.str s) = decide (s = t) := fun t => by
      simp only [eqD]
      rw [Bool.eq_iff_iff]
      simp
      exact eq_comm
    rw [a', a', Bool.or_false]
  unfold W3
  rw [a, a, i]
  by_cases h1 : s = sCell
  · have h2 : ¬ s = sPair := by rw [h1]; decide
    simp [h1, show ¬ sCell = sPair by decide]
  · by_cases h2 : s = sPair
    · simp [h2, show ¬ sPair = sCell by decide]
    · simp [h1, h2]
theorem W3_good {x0 : D} {c : Cell} (h : W3 m x0 c = false) : ∃ g ∈ goals m, goalQ x0 (enc c) = some g := by
  rcases str_of x0 with ⟨s, rfl⟩ | q
  · rw [W3_str] at h
    rw [goal_str]
    split at h
    · rename_i e
      rw [if_pos e]
      simp only [Bool.or_eq_false_iff, decide_eq_false_iff_not] at h
      exact ⟨_, mem_goals.mpr (.inl ⟨rfl, mem_cells.mpr ⟨by show c.1 < m + 1; omega, by show c.2 < m + 2; omega⟩⟩), rfl⟩
    · rename_i e
      rw [if_neg e]
      split at h
      · rename_i e2
        rw [if_pos e2]
        refine ⟨_, mem_goals.mpr (.inr ⟨rfl, (inP_iff m).mp ?_⟩), rfl⟩
        simpa using h
      · cases h
  · rw [W3_non m c q] at h
    cases h
theorem W3_bad {x0 : D} {c : Cell} (h : W3 m x0 c = true) {g : Goal} (e : goalQ x0 (enc c) = some g) : g ∉ goals m := by
  rcases str_of x0 with ⟨s, rfl⟩ | q
  · rw [W3_str] at h
    rw [goal_str] at e
    split at h
    · rename_i e1
      rw [if_pos e1] at e
      cases e
      intro k
      rcases mem_goals.mp k with ⟨_, k⟩ | ⟨k, _⟩
      · have k := mem_cells.mp k
        simp only [Bool.or_eq_true, decide_eq_true_eq] at h
        simp only at k
        omega
      · cases k
    · rename_i e1
      rw [if_neg e1] at e
      split at h
      · rename_i e2
        rw [if_pos e2] at e
        cases e
        intro k
        rcases mem_goals.mp k with ⟨k, _⟩ | ⟨_, k⟩
        · cases k
        · have := (inP_iff m).mpr k
          simp only at this
          rw [this] at h
          cases h
      · rename_i e2
        rw [if_neg e2] at e
        cases e
  · rw [goal_non c q] at e
    cases e
end

/-! papers: the law's look, its loop -/
section
variable (m : Nat) (b : Cell → Nat)
theorem turnC_t {Φ : Phi} {elt : E} {tg : Tg} {e : E} {ρ0 ρ : Env} {x : D} {t : Bool} {d : D} (h1 : bindTg tg x ρ0 = some ρ) (h2 : ev Φ e ρ = .ok (fz (.bl t))) (h3 : ev Φ elt ρ = .ok (fz d)) : turnC Φ elt tg [e] ρ0 x = .ok (if t then some d else none) := by
  unfold turnC
  rw [h1]
  show (match evt Φ [e] ρ with | .ok true => _ | .ok false => _ | _ => _) = _
  rw [evt_one, h2]
  show (match (R.ok t : R Bool) with | .ok true => _ | .ok false => _ | _ => _) = _
  cases t with
  | false => rfl
  | true =>
    show (match ev Φ elt ρ with | .ok s => _ | _ => _) = _
    rw [h3]
    rfl
def rowsW (left : List Dom) (g : Goal) : List Dom := left.filter fun d => inList (enc g) ((gs b d).map enc)
theorem rowsW_eq {left : List Dom} (hs : left.Sublist (places m)) (g : Goal) (hn : (places m).Nodup) : rowsW b left g = rowsOf m b left g := by
  have e : left = (places m).filter fun d => decide (d ∈ left) := by
    have key : ∀ {xs ys : List Dom}, xs.Sublist ys → ys.Nodup → xs = ys.filter fun d => decide (d ∈ xs) := by
      intro xs ys h
      induction h with
      | slnil => intro _; rfl
      | @cons l₁ l₂ a h ih =>
        intro n
        rw [List.nodup_cons] at n
        rw [List.filter_cons_of_neg (by simp; exact fun q => n.1 (h.mem q))]
        exact ih n.2
      | @cons_cons l₁ l₂ a h ih =>
        intro n
        rw [List.nodup_cons] at n
        rw [List.filter_cons_of_pos (by simp)]
        congr 1
        have := ih n.2
        refine this.trans (List.filter_congr fun x hx => ?_)
        have : ¬ x = a := fun q => n.1 (q ▸ hx)
        simp [this]
    exact key hs hn
  unfold rowsW rowsOf having
  rw [List.filter_filter]
  have e2 : left.filter (fun d => inList (enc g) ((gs b d).map enc)) = ((places m).filter fun d => decide (d ∈ left)).filter (fun d => inList (enc g) ((gs b d).map enc)) := congrArg (List.filter _) e
  rw [e2, List.filter_filter]
  refine List.filter_congr fun d _ => ?_
  rw [Bool.eq_iff_iff, Bool.and_eq_true, Bool.and_eq_true, inL_iff]
  simp
  exact and_comm
theorem rowsW_ok (Φ : Phi) (left : List Dom) (dn : List Goal) (g : Goal) (ps : List D) (hG : ∀ d ∈ left, Φ n__law_goals [fz (boardD m b), fz (enc d)] = .ok (oL ((gs b d).map enc)) []) : exs Φ [.asg (.nm 5) (.comp (.var 10) (.nm 10) (.seq (.var 1)) [(.cmp .in_ (.slc (.var 3) none (some (.lit (.int 2)))) (.call n__law_goals [(.var 0), (.var 10)]))] [10]), .frz [5]] (envW m b left dn (.tup [enc g.1, enc g.2, .tup ps]) (eM4 m) none none none none none) = .ok (.nx (envW m b left dn (.tup [enc g.1, enc g.2, .tup ps]) (eM4 m) (some (fz (.lst ((rowsW b left g).map enc)))) none none none none)) := by
  simp only [n__law_goals] at hG
  have cs : cutS (fz (.tup [enc g.1, enc g.2, .tup ps])) none (some 2) = some (fz (enc g)) := rfl
  have p1 : plain 60 (enc g) = true := plE20 (by decide) g
  have p2 := plains_map (α := Goal) 60 (by decide)
  have c : ev Φ (.comp (.var 10) (.nm 10) (.seq (.var 1)) [(.cmp .in_ (.slc (.var 3) none (some (.lit (.int 2)))) (.call n__law_goals [(.var 0), (.var 10)]))] [10]) (envW m b left dn (.tup [enc g.1, enc g.2, .tup ps]) (eM4 m) none none none none none) = .ok (oL ((rowsW b left g).map enc)) := by
    refine ev_compf (enc := enc) (xs := left) (p := fun d => inList (enc g) ((gs b d).map enc)) (g := enc) ?_ fun d hd => ?_
    · simp -implicitDefEqProofs [envW]
    · refine turnC_t (ρ := [some (fz (boardD m b)), some (fz (.lst (left.map enc))), some (fz (.lst (dn.map enc))), some (fz (.tup [enc g.1, enc g.2, .tup ps])), eM4 m, none, none, none, none, none, some (fz (enc d)), none, none, none]) (by simp [envW]) ?_ rfl
      have h := hG d hd
      have l : ev Φ (.call n__law_goals [(.var 0), (.var 10)]) [some (fz (boardD m b)), some (fz (.lst (left.map enc))), some (fz (.lst (dn.map enc))), some (fz (.tup [enc g.1, enc g.2, .tup ps])), eM4 m, none, none, none, none, none, some (fz (enc d)), none, none, none] = .ok (oL ((gs b d).map enc)) := by
        simp -implicitDefEqProofs [h]
      have s : ev Φ (.slc (.var 3) none (some (.lit (.int 2)))) [some (fz (boardD m b)), some (fz (.lst (left.map enc))), some (fz (.lst (dn.map enc))), some (fz (.tup [enc g.1, enc g.2, .tup ps])), eM4 m, none, none, none, none, none, some (fz (enc d)), none, none, none] = .ok (fz (enc g)) := by
        simp -implicitDefEqProofs [cs]
      rw [ev_cmp, s, R.ok_bind, l, R.ok_bind]
      show (R.of (if (plain 60 (enc g) && plains 60 ((gs b d).map enc)) = true then some (inList (enc g) ((gs b d).map enc)) else none) >>= fun c => R.ok (fz (.bl c))) = _
      rw [p1, p2]
      rfl
  rw [exs_cons, ex_asg, c]
  simp -implicitDefEqProofs [envW]
theorem later_ok (Φ : Phi) (left : List Dom) (dn : List Goal) (p : D) (d : Dom) (hG : ∀ d ∈ left, Φ n__law_goals [fz (boardD m b), fz (enc d)] = .ok (oL ((gs b d).map enc)) []) (x5 x6 x8 x9 : Option SV) : ev Φ (.comp (.var 11) (.nm 11) (.seq (.var 1)) [(.not (.bi .any [(.comp (.cmp .in_ (.var 13) (.var 7)) (.nm 13) (.seq (.call n__law_goals [(.var 0), (.var 11)])) [] [13])]))] [11]) (envW m b left dn p (eM4 m) x5 x6 (some (fz (.lst ((gs b d).map enc)))) x8 x9) = .ok (oL ((Cov.going (gs b) left d).map enc)) := by
  simp only [n__law_goals] at hG
  have p1 : ∀ g : Goal, plain 60 (enc g) = true := plE20 (by decide)
  have p2 := plains_map (α := Goal) 60 (by decide)
  refine ev_compf (enc := enc) (xs := left) (p := Cov.apart (gs b) d) (g := enc) ?_ fun x hx => ?_
  · simp -implicitDefEqProofs [envW]
  · refine turnC_t (ρ := [some (fz (boardD m b)), some (fz (.lst (left.map enc))), some (fz (.lst (dn.map enc))), some (fz p), eM4 m, x5, x6, some (fz (.lst ((gs b d).map enc))), x8, x9, none, some (fz (enc x)), none, none]) (by simp [envW]) ?_ rfl
    have h := hG x hx
    have inner : ev Φ (.comp (.cmp .in_ (.var 13) (.var 7)) (.nm 13) (.seq (.call n__law_goals [(.var 0), (.var 11)])) [] [13]) [some (fz (boardD m b)), some (fz (.lst (left.map enc))), some (fz (.lst (dn.map enc))), some (fz p), eM4 m, x5, x6, some (fz (.lst ((gs b d).map enc))), x8, x9, none, some (fz (enc x)), none, none] = .ok (oL ((gs b x).map fun y => .bl (decide (y ∈ gs b d)))) := by
      refine ev_compm (enc := enc) (xs := gs b x) ?_ fun y hy => ?_
      · simp -implicitDefEqProofs [h]
      · simp -implicitDefEqProofs [turnC, p1, p2]
    have a : boolL ((gs b x).map fun y => D.bl (decide (y ∈ gs b d))) = some ((gs b x).map fun y => decide (y ∈ gs b d)) := boolL_map (fun y => decide (y ∈ gs b d)) (gs b x)
    have a2 : ev Φ (.bi .any [(.comp (.cmp .in_ (.var 13) (.var 7)) (.nm 13) (.seq (.call n__law_goals [(.var 0), (.var 11)])) [] [13])]) [some (fz (boardD m b)), some (fz (.lst (left.map enc))), some (fz (.lst (dn.map enc))), some (fz p), eM4 m, x5, x6, some (fz (.lst ((gs b d).map enc))), x8, x9, none, some (fz (enc x)), none, none] = .ok (fz (.bl ((gs b x).any fun y => decide (y ∈ gs b d)))) := by
      rw [ev_bi1 (by decide) (by decide), inner]
      show R.of (match boolL ((gs b x).map fun y => D.bl (decide (y ∈ gs b d))) with | some bs => some (fz (.bl (bs.any id))) | none => none) = _
      rw [a]
      show R.ok (fz (.bl (((gs b x).map fun y => decide (y ∈ gs b d)).any id))) = _
      rw [List.any_map]
      rfl
    have key : ((gs b x).any fun y => decide (y ∈ gs b d)) = !(Cov.apart (gs b) d x) := by
      unfold Cov.apart
      rw [Bool.not_not]
      congr 1
      funext y
      exact decide_eq_decide.mpr Iff.rfl
    rw [key] at a2
    have q := not_bl a2
    rw [Bool.not_not] at q
    exact q
theorem find_range {α β : Type} (d0 : α) (r : α → Option β) : ∀ zs : List α, (List.range zs.length).findSome? (fun k => r (zs.getD k d0)) = zs.findSome? r
  | [] => rfl
  | z :: zs => by
    rw [List.length_cons, List.range_succ_eq_map, List.findSome?_cons, List.findSome?_cons]
    show (match r z with | some v => _ | none => _) = _
    cases r z with
    | some v => rfl
    | none =>
      show List.findSome? _ (List.map Nat.succ (List.range zs.length)) = _
      rw [List.findSome?_map]
      exact find_range d0 r zs
theorem wpath_fin (Φ : Phi) (left : List Dom) (dn : List Goal) (g : Goal) (ps : List D) (rows : List Dom) (n : Nat) (hn : n ≤ 1000) (f : Dom → D → Option (List Dom)) (hl : ps.length = rows.length) (hz : rows.length ≤ 1000) (hd : dn.length ≤ 100000)
    (hf : ∀ z ∈ rows.zip ps, ∀ w, f z.1 z.2 = some w → w.length ≤ n) (hr : ∀ d ∈ rows, d ∈ left)
    (hG : ∀ d ∈ left, Φ n__law_goals [fz (boardD m b), fz (enc d)] = .ok (oL ((gs b d).map enc)) [])
    (h3 : ∀ z ∈ rows.zip ps, Φ n__law_path [fz (boardD m b), fz (.lst ((Cov.going (gs b) left z.1).map enc)), fz (.lst ((dn ++ gs b z.1).map enc)), fz z.2] = .ok (fz (resD (f z.1 z.2))) []) :
    ∃ ρ, exs Φ [.for_ (.nm 6) (.rng [(.bi .len [(.var 5)])]) bWz, .ret (.lit (.non))] (envW m b left dn (.tup [enc g.1, enc g.2, .tup ps]) (eM4 m) (some (fz (.lst (rows.map enc)))) none none none none) = .ok (.rt (fz (resD (firstP f (rows.zip ps)))) ρ) := by
  simp only [n__law_path] at h3
  have it : evif Φ (.rng [(.bi .len [(.var 5)])]) (envW m b left dn (.tup [enc g.1, enc g.2, .tup ps]) (eM4 m) (some (fz (.lst (rows.map enc)))) none none none none) = .ok ((List.range rows.length).map enc) := by
    have r : rngS [.int (rows.length : Int)] = some ((List.range rows.length).map enc) := rngS_nat (by omega)
    have e : ev Φ (.bi .len [(.var 5)]) (envW m b left dn (.tup [enc g.1, enc g.2, .tup ps]) (eM4 m) (some (fz (.lst (rows.map enc)))) none none none none) = .ok (fz (.int (rows.length : Int))) := by simp -implicitDefEqProofs [envW]
    rw [evif_rng, evs_cons, e, R.ok_bind, fr_fz, R.of_some, R.ok_bind, evs_nil, R.ok_bind, R.ok_bind, r]
    rfl
  let z0 : Dom × D := (((0, 0), (0, 0)), .non)
  have zl : (rows.zip ps).length = rows.length := by rw [List.length_zip]; omega
  let P : Env → Prop := fun ρ => ∃ x6 x7 x8 x9, ρ = envW m b left dn (.tup [enc g.1, enc g.2, .tup ps]) (eM4 m) (some (fz (.lst (rows.map enc)))) x6 x7 x8 x9
  have lp := loopF_first (f := fun x ρ1 => exs Φ bWz (ρ1.set 6 (some (fz x)))) (g := (enc : Nat → D)) (fun k => (f ((rows.zip ps).getD k z0).1 ((rows.zip ps).getD k z0).2).map fun w => fz (enc (((rows.zip ps).getD k z0).1 :: w))) P (xs := List.range rows.length) (by
    rintro k hk ρ ⟨x6, x7, x8, x9, rfl⟩
    have hk := List.mem_range.mp hk
    have hkz : k < (rows.zip ps).length := by omega
    have hzm : (rows.zip ps).getD k z0 ∈ rows.zip ps := by
      simp only [List.getD, List.getElem?_eq_getElem hkz, Option.getD_some]
      exact List.getElem_mem hkz
    have h5 : rows[k]? = some ((rows.zip ps).getD k z0).1 := by
      simp only [List.getD, List.getElem?_eq_getElem hkz, Option.getD_some, List.getElem_zip]
      exact List.getElem?_eq_getElem hk
    have h6 : ps[k]? = some ((rows.zip ps).getD k z0).2 := by
      simp only [List.getD, List.getElem?_eq_getElem hkz, Option.getD_some, List.getElem_zip]
      exact List.getElem?_eq_getElem (by omega)
    have g3 := h3 _ hzm
    have wl := hf _ hzm
    generalize (rows.zip ps).getD k z0 = z at hzm h5 h6 g3 wl
    obtain ⟨d, q⟩ := z
    simp only at h5 h6 g3 wl
    have hdr : d ∈ rows := (List.of_mem_zip hzm).1
    have hdl := hr d hdr
    have lt := later_ok m b Φ left dn (.tup [enc g.1, enc g.2, .tup ps]) d hG (some (fz (.lst (rows.map enc)))) (some (fz (enc k))) x8 x9
    have gd := hG d hdl
    simp only [n__law_goals] at gd
    have s1 : exs Φ (bWz.take 2) ((envW m b left dn (.tup [enc g.1, enc g.2, .tup ps]) (eM4 m) (some (fz (.lst (rows.map enc)))) x6 x7 x8 x9).set 6 (some (fz (enc k)))) = .ok (.nx (envW m b left dn (.tup [enc g.1, enc g.2, .tup ps]) (eM4 m) (some (fz (.lst (rows.map enc)))) (some (fz (enc k))) (some (fz (.lst ((gs b d).map enc)))) x8 x9)) := by
      show exs Φ [.asg (.nm 7) (.call n__law_goals [(.var 0), (.idx (.var 5) (.var 6))]), .frz [7]] _ = _
      simp -implicitDefEqProofs [envW, enc_nat, h5, gd]
    have s2 : exs Φ ((bWz.drop 2).take 2) (envW m b left dn (.tup [enc g.1, enc g.2, .tup ps]) (eM4 m) (some (fz (.lst (rows.map enc)))) (some (fz (enc k))) (some (fz (.lst ((gs b d).map enc)))) x8 x9) = .ok (.nx (envW m b left dn (.tup [enc g.1, enc g.2, .tup ps]) (eM4 m) (some (fz (.lst (rows.map enc)))) (some (fz (enc k))) (some (fz (.lst ((gs b d).map enc)))) (some (fz (.lst ((Cov.going (gs b) left d).map enc)))) x9)) := by
      show exs Φ [.asg (.nm 8) (.comp (.var 11) (.nm 11) (.seq (.var 1)) [(.not (.bi .any [(.comp (.cmp .in_ (.var 13) (.var 7)) (.nm 13) (.seq (.call n__law_goals [(.var 0), (.var 11)])) [] [13])]))] [11]), .frz [8]] _ = _
      rw [exs_cons, ex_asg, lt]
      simp -implicitDefEqProofs [envW]
    have l3 : dn.length + (gs b d).length ≤ 16777216 := by
      have : (gs b d).length = 3 := rfl
      omega
    generalize Cov.going (gs b) left d = gg at g3 s2
    have cl : ev Φ (.call n__law_path [(.var 0), (.var 8), (.bin .add (.var 2) (.var 7)), (.idx (.idx (.var 3) (.lit (.int 2))) (.var 6))]) (envW m b left dn (.tup [enc g.1, enc g.2, .tup ps]) (eM4 m) (some (fz (.lst (rows.map enc)))) (some (fz (enc k))) (some (fz (.lst ((gs b d).map enc)))) (some (fz (.lst (gg.map enc)))) x9) = .ok (fz (resD (f d q))) := by
      rw [List.map_append] at g3
      generalize gs b d = own at g3 l3
      simp -implicitDefEqProofs [envW, enc_nat, h6, l3, g3]
    rw [show bWz = bWz.take 2 ++ ((bWz.drop 2).take 2 ++ bWz.drop 4) from rfl, exs_append, s1, RS.seq_nx, exs_append, s2, RS.seq_nx]
    have sp : bWz.drop 4 = [.asg (.nm 9) (.call n__law_path [(.var 0), (.var 8), (.bin .add (.var 2) (.var 7)), (.idx (.idx (.var 3) (.lit (.int 2))) (.var 6))]), .frz [9], .if_ (.cmp .isn (.var 9) (.lit (.non))) [.ret (.bin .add (.tup [(.idx (.var 5) (.var 6))]) (.var 9))] []] := rfl
    rw [sp, exs_cons, ex_asg, cl]
    constructor
    · intro v hv
      cases c : f d q with
      | none => rw [c] at hv; cases hv
      | some w =>
        rw [c] at hv
        cases hv
        have wl := wl w c
        have wl1 : w.length + 1 ≤ 16777216 := by omega
        have wl2 : 1 + w.length ≤ 16777216 := by omega
        refine ⟨envW m b left dn (.tup [enc g.1, enc g.2, .tup ps]) (eM4 m) (some (fz (.lst (rows.map enc)))) (some (fz (enc k))) (some (fz (.lst ((gs b d).map enc)))) (some (fz (.lst (gg.map enc)))) (some (fz (enc w))), ?_⟩
        generalize gs b d = own
        simp -implicitDefEqProofs [envW, enc_nat, resD, enc_list, h5, wl1, wl2]
    · intro hv
      cases c : f d q with
      | some w => rw [c] at hv; cases hv
      | none =>
        refine ⟨envW m b left dn (.tup [enc g.1, enc g.2, .tup ps]) (eM4 m) (some (fz (.lst (rows.map enc)))) (some (fz (enc k))) (some (fz (.lst ((gs b d).map enc)))) (some (fz (.lst (gg.map enc)))) (some (fz .non)), ?_, _, _, _, _, rfl⟩
        generalize gs b d = own
        simp -implicitDefEqProofs [envW, resD]) (ρ := envW m b left dn (.tup [enc g.1, enc g.2, .tup ps]) (eM4 m) (some (fz (.lst (rows.map enc)))) none none none none) ⟨none, none, none, none, rfl⟩
  obtain ⟨l1, l2⟩ := lp
  rw [exs_cons, ex_for, it, RS.of_ok, firstP_find]
  simp -implicitDefEqProofs only [bindTg_nm]
  have fs : (List.range rows.length).findSome? (fun k => (f ((rows.zip ps).getD k z0).1 ((rows.zip ps).getD k z0).2).map fun w => fz (enc (((rows.zip ps).getD k z0).1 :: w))) = ((rows.zip ps).findSome? fun z => (f z.1 z.2).map (z.1 :: ·)).map fun w => fz (enc w) := by
    have := find_range z0 (fun z : Dom × D => (f z.1 z.2).map fun w => fz (enc (z.1 :: w))) (rows.zip ps)
    rw [zl] at this
    rw [this]
    induction rows.zip ps with
    | nil => rfl
    | cons z zs ih =>
      rw [List.findSome?_cons, List.findSome?_cons]
      cases f z.1 z.2 with
      | none => exact ih
      | some w => rfl
  cases c : (rows.zip ps).findSome? fun z => (f z.1 z.2).map (z.1 :: ·) with
  | some w =>
    obtain ⟨ρ', q⟩ := l1 (fz (enc w)) (by rw [fs, c]; rfl)
    exact ⟨ρ', by rw [q]; rfl⟩
  | none =>
    obtain ⟨ρ', q, x6, x7, x8, x9, rfl⟩ := l2 (by rw [fs, c]; rfl)
    refine ⟨envW m b left dn (.tup [enc g.1, enc g.2, .tup ps]) (eM4 m) (some (fz (.lst (rows.map enc)))) x6 x7 x8 x9, ?_⟩
    rw [q, RS.seq_nx]
    simp -implicitDefEqProofs [resD]
end

/-! papers: the law's look, whole; what a paper means -/
section
variable (m : Nat) (b : Cell → Nat)
theorem wpath_ret (Φ : Phi) (left : List Dom) (dn : List Goal) (p : D) {v : SV} {ρ : Env} (h : exs Φ (b__law_path.drop 1) (envW m b left dn p (eM4 m) none none none none none) = .ok (.rt v ρ)) : runFn Φ i__law_path [fz (boardD m b), fz (.lst (left.map enc)), fz (.lst (dn.map enc)), fz p] = .ok v [] := by
  refine runFn_rt (ρ0 := envW m b left dn p none none none none none none) (ρ := ρ) (ss := []) rfl rfl rfl ?_ rfl
  show exs Φ b__law_path _ = _
  rw [show b__law_path = [.asg (.nm 4) (.bin .sub (.bi .len [(.var 0)]) (.lit (.int 1)))] ++ b__law_path.drop 1 from rfl, exs_append, w0_ok, RS.seq_nx]
  exact h
theorem wpath_rest : b__law_path.drop 1 = [.if_ w1E [.ret (.tup [])] []] ++ ([.if_ w2E [.ret (.tup [])] []] ++ ([.if_ w3E [.ret (.tup [])] []] ++ ([.asg (.nm 5) (.comp (.var 10) (.nm 10) (.seq (.var 1)) [(.cmp .in_ (.slc (.var 3) none (some (.lit (.int 2)))) (.call n__law_goals [(.var 0), (.var 10)]))] [10]), .frz [5]] ++ ([.if_ (.cmp .ne (.bi .len [(.var 5)]) (.bi .len [(.idx (.var 3) (.lit (.int 2)))])) [.ret (.tup [])] []] ++ [.for_ (.nm 6) (.rng [(.bi .len [(.var 5)])]) bWz, .ret (.lit (.non))])))) := rfl
theorem W_off (Φ : Phi) (left : List Dom) (dn : List Goal) (p : D) (hp : plain 60 p = true) (h : sh1 p = false) : runFn Φ i__law_path [fz (boardD m b), fz (.lst (left.map enc)), fz (.lst (dn.map enc)), fz p] = .ok (fz (.tup [])) [] := by
  have c := w1_ok m b Φ left dn p hp
  rw [h] at c
  refine wpath_ret m b Φ left dn p (ρ := envW m b left dn p (eM4 m) none none none none none) ?_
  rw [wpath_rest, exs_append, if_tt c (ret_nil Φ _), RS.seq_rt]
theorem W_two (Φ : Phi) (left : List Dom) (dn : List Goal) (x0 u v : D) (ps : List D) (hp : plain 60 (.tup [x0, .tup [u, v], .tup ps]) = true) (h : (!(nn u && nn v) || inList (.tup [x0, .tup [u, v]]) (dn.map enc)) = true) : runFn Φ i__law_path [fz (boardD m b), fz (.lst (left.map enc)), fz (.lst (dn.map enc)), fz (.tup [x0, .tup [u, v], .tup ps])] = .ok (fz (.tup [])) [] := by
  have c := w1_ok m b Φ left dn _ hp
  have c2 := w2_ok m b Φ left dn x0 u v (.tup ps) hp
  rw [h] at c2
  refine wpath_ret m b Φ left dn _ (ρ := envW m b left dn (.tup [x0, .tup [u, v], .tup ps]) (eM4 m) none none none none none) ?_
  rw [wpath_rest, exs_append, if_ff c, RS.seq_nx, exs_append, if_tt c2 (ret_nil Φ _), RS.seq_rt]
theorem nn_nat (k : Nat) : nn (.int (k : Int)) = true := by
  show decide ((0 : Int) ≤ (k : Int)) = true
  exact decide_eq_true (by omega)
theorem W_three (Φ : Phi) (left : List Dom) (dn : List Goal) (x0 : D) (c : Cell) (ps : List D) (hp : plain 60 (.tup [x0, enc c, .tup ps]) = true) (hq : Φ n__law_pairs [fz (.int m)] = .ok (fz (.lst ((pairs m).map enc))) []) (h2 : inList (.tup [x0, enc c]) (dn.map enc) = false) (h3 : W3 m x0 c = true) : runFn Φ i__law_path [fz (boardD m b), fz (.lst (left.map enc)), fz (.lst (dn.map enc)), fz (.tup [x0, enc c, .tup ps])] = .ok (fz (.tup [])) [] := by
  have c1 := w1_ok m b Φ left dn _ hp
  have c2 : ev Φ w2E (envW m b left dn (.tup [x0, enc c, .tup ps]) (eM4 m) none none none none none) = .ok (fz (.bl (!(nn (.int c.1) && nn (.int c.2)) || inList (.tup [x0, enc c]) (dn.map enc)))) := w2_ok m b Φ left dn x0 (.int c.1) (.int c.2) (.tup ps) hp
  have n1 : nn (.int (c.1 : Int)) = true := nn_nat _
  have n2 : nn (.int (c.2 : Int)) = true := nn_nat _
  rw [n1, n2, h2] at c2
  have c3 := w3_ok m b Φ left dn x0 c (.tup ps) (plain_le (by omega) (plain_3 hp).1) hq
  rw [h3] at c3
  refine wpath_ret m b Φ left dn _ (ρ := envW m b left dn (.tup [x0, enc c, .tup ps]) (eM4 m) none none none none none) ?_
  rw [wpath_rest, exs_append, if_ff c1, RS.seq_nx, exs_append, if_ff c2, RS.seq_nx, exs_append, if_tt c3 (ret_nil Φ _), RS.seq_rt]
theorem W_on (Φ : Phi) (left : List Dom) (dn : List Goal) (g : Goal) (ps : List D) (hp : plain 60 (.tup [enc g.1, enc g.2, .tup ps]) = true) (hq : Φ n__law_pairs [fz (.int m)] = .ok (fz (.lst ((pairs m).map enc))) []) (h2 : inList (.tup [enc g.1, enc g.2]) (dn.map enc) = false) (h3 : W3 m (enc g.1) g.2 = false) (n : Nat) (hn : n ≤ 1000) (f : Dom → D → Option (List Dom)) (hz : (rowsW b left g).length ≤ 1000) (hd : dn.length ≤ 100000)
    (hf : ∀ z ∈ (rowsW b left g).zip ps, ∀ w, f z.1 z.2 = some w → w.length ≤ n)
    (hG : ∀ d ∈ left, Φ n__law_goals [fz (boardD m b), fz (enc d)] = .ok (oL ((gs b d).map enc)) [])
    (h4 : ∀ z ∈ (rowsW b left g).zip ps, Φ n__law_path [fz (boardD m b), fz (.lst ((Cov.going (gs b) left z.1).map enc)), fz (.lst ((dn ++ gs b z.1).map enc)), fz z.2] = .ok (fz (resD (f z.1 z.2))) []) :
    runFn Φ i__law_path [fz (boardD m b), fz (.lst (left.map enc)), fz (.lst (dn.map enc)), fz (.tup [enc g.1, enc g.2, .tup ps])] = .ok (fz (if ps.length = (rowsW b left g).length then resD (firstP f ((rowsW b left g).zip ps)) else .tup [])) [] := by
  have c1 := w1_ok m b Φ left dn _ hp
  have c2 : ev Φ w2E (envW m b left dn (.tup [enc g.1, enc g.2, .tup ps]) (eM4 m) none none none none none) = .ok (fz (.bl (!(nn (.int g.2.1) && nn (.int g.2.2)) || inList (.tup [enc g.1, enc g.2]) (dn.map enc)))) := w2_ok m b Φ left dn (enc g.1) (.int g.2.1) (.int g.2.2) (.tup ps) hp
  have n1 : nn (.int (g.2.1 : Int)) = true := nn_nat _
  have n2 : nn (.int (g.2.2 : Int)) = true := nn_nat _
  rw [n1, n2, h2] at c2
  have c3 := w3_ok m b Φ left dn (enc g.1) g.2 (.tup ps) (plain_le (by omega) (plain_3 hp).1) hq
  rw [h3] at c3
  have c4 := rowsW_ok m b Φ left dn g ps hG
  have c5 : ev Φ (.cmp .ne (.bi .len [(.var 5)]) (.bi .len [(.idx (.var 3) (.lit (.int 2)))])) (envW m b left dn (.tup [enc g.1, enc g.2, .tup ps]) (eM4 m) (some (fz (.lst ((rowsW b left g).map enc)))) none none none none) = .ok (fz (.bl (decide (ps.length ≠ (rowsW b left g).length)))) := by
    generalize rowsW b left g = rr
    by_cases q : ps.length = rr.length
    · simp -implicitDefEqProofs [envW, q]
    · have q' : ¬ (rr.length : Int) = (ps.length : Int) := by omega
      have q2 : ¬ rr.length = ps.length := fun e => q e.symm
      simp -implicitDefEqProofs [envW, q, q', q2]
  by_cases q : ps.length = (rowsW b left g).length
  · rw [if_pos q]
    rw [decide_eq_false (by simpa using q)] at c5
    obtain ⟨ρ, c6⟩ := wpath_fin m b Φ left dn g ps (rowsW b left g) n hn f q hz hd hf (fun d h => (List.mem_filter.mp h).1) hG h4
    refine wpath_ret m b Φ left dn _ (ρ := ρ) ?_
    rw [wpath_rest, exs_append, if_ff c1, RS.seq_nx, exs_append, if_ff c2, RS.seq_nx, exs_append, if_ff c3, RS.seq_nx, exs_append, c4, RS.seq_nx, exs_append, if_ff c5, RS.seq_nx]
    exact c6
  · rw [if_neg q]
    rw [decide_eq_true (by simpa using q)] at c5
    refine wpath_ret m b Φ left dn _ (ρ := envW m b left dn (.tup [enc g.1, enc g.2, .tup ps]) (eM4 m) (some (fz (.lst ((rowsW b left g).map enc)))) none none none none) ?_
    rw [wpath_rest, exs_append, if_ff c1, RS.seq_nx, exs_append, if_ff c2, RS.seq_nx, exs_append, if_ff c3, RS.seq_nx, exs_append, c4, RS.seq_nx, exs_append, if_tt c5 (ret_nil Φ _), RS.seq_rt]
theorem sh1_of {p : D} (h : sh1 p = true) : ∃ x0 u v ps, p = .tup [x0, .tup [u, v], .tup ps] := by
  unfold sh1 at h
  split at h
  · exact ⟨_, _, _, _, rfl⟩
  · cases h
theorem nn_of {u : D} (h : nn u = true) : ∃ k : Nat, u = .int k := by
  cases u with
  | int i =>
    have : 0 ≤ i := of_decide_eq_true h
    exact ⟨i.toNat, by rw [Int.toNat_of_nonneg this]⟩
  | _ => cases h
theorem goal_in {gls : List Goal} {x0 x1 : D} {g : Goal} (e : goalQ x0 x1 = some g) : inList (.tup [x0, x1]) (gls.map enc) = true ↔ g ∈ gls := by
  obtain ⟨rfl, rfl⟩ := goalQ_some e
  exact inL_iff g gls
theorem goal_ints {x0 : D} {c : Cell} {gls : List Goal} (h : inList (.tup [x0, enc c]) (gls.map enc) = true) : ∃ g ∈ gls, goalQ x0 (enc c) = some g := by
  obtain ⟨u, v, e, q⟩ := among h
  have e : (D.tup [.int c.1, .int c.2]) = .tup [u, v] := e
  cases e
  rcases q with ⟨_, g, hg, e⟩ | ⟨q, _⟩
  · exact ⟨g, hg, e⟩
  · cases q
theorem sh1_shape {p : D} (h : sh1 p = false) {x0 x1 : D} {ps : List D} (e : p = .tup [x0, x1, .tup ps]) : ∀ g, goalQ x0 x1 ≠ some g := by
  intro g q
  obtain ⟨rfl, rfl⟩ := goalQ_some q
  subst e
  cases h
theorem wpath_M (h4 : m ≤ 4) (k : Nat) : ∀ (n : Nat) (left : List Dom) (dn gls : List Goal) (p : D), plain (2 * n) p = true → 2 * n ≤ 60 → left.Sublist (places m) → (∀ g, g ∈ gls ↔ g ∈ goals m ∧ g ∉ dn) → dn.length + 3 * n ≤ 100000 → M prog (k + n + 3) n__law_path [fz (boardD m b), fz (.lst (left.map enc)), fz (.lst (dn.map enc)), fz p] = .ok (fz (resD (pathS m b n left gls p))) [] := by
  intro n
  induction n with
  | zero =>
    intro left dn gls p hp _ _ _ _
    have hs : sh1 p = false := by
      cases c : sh1 p with
      | false => rfl
      | true =>
        obtain ⟨x0, u, v, ps, rfl⟩ := sh1_of c
        cases hp
    rw [M_succ (h := rfl), W_off m b _ left dn p (plain_le (by omega) hp) hs]
    rfl
  | succ n ih =>
    intro left dn gls p hp hn hu hv hl
    have hp60 : plain 60 p = true := plain_le hn hp
    have nd := nodup_places m h4
    have hq : M prog (k + (n + 1) + 2) n__law_pairs [fz (.int m)] = .ok (fz (.lst ((pairs m).map enc))) [] := law_pairs_M (k + (n + 1) + 1) m h4
    rw [M_succ (h := rfl)]
    have off : ∀ x0 x1 ps, p = .tup [x0, x1, .tup ps] → (∀ g, goalQ x0 x1 = some g → g ∉ gls) → pathS m b (n + 1) left gls p = some [] := fun x0 x1 ps e h => by
      subst e
      exact pathS_bad m b h
    cases c : sh1 p with
    | false =>
      rw [W_off m b _ left dn p hp60 c]
      cases hs : isShape p with
      | false => rw [pathS_off m b hs]; rfl
      | true =>
        obtain ⟨x0, x1, ps, e⟩ := shape_tup hs
        rw [off x0 x1 ps e fun g q => absurd q (sh1_shape c e g)]
        rfl
    | true =>
      obtain ⟨x0, u, v, ps, rfl⟩ := sh1_of c
      cases c2 : (!(nn u && nn v) || inList (.tup [x0, .tup [u, v]]) (dn.map enc)) with
      | true =>
        rw [W_two m b _ left dn x0 u v ps hp60 c2, off x0 (.tup [u, v]) ps rfl]
        · rfl
        · intro g q hg
          obtain ⟨e0, e1⟩ := goalQ_some q
          have e1 : (D.tup [u, v]) = .tup [.int g.2.1, .int g.2.2] := e1
          cases e1
          have n1 : nn (.int (g.2.1 : Int)) = true := nn_nat _
          have n2 : nn (.int (g.2.2 : Int)) = true := nn_nat _
          rw [n1, n2] at c2
          have c2 : inList (.tup [x0, .tup [.int g.2.1, .int g.2.2]]) (dn.map enc) = true := c2
          exact ((hv g).mp hg).2 ((goal_in q).mp c2)
      | false =>
        rw [Bool.or_eq_false_iff] at c2
        obtain ⟨c2, c3⟩ := c2
        have c2 : (nn u && nn v) = true := by simpa using c2
        rw [Bool.and_eq_true] at c2
        obtain ⟨r, rfl⟩ := nn_of c2.1
        obtain ⟨s, rfl⟩ := nn_of c2.2
        have ec : (D.tup [.int (r : Int), .int (s : Int)]) = enc ((r, s) : Cell) := rfl
        rw [ec] at hp hp60 c3 ⊢
        cases c4 : W3 m x0 (r, s) with
        | true =>
          rw [W_three m b _ left dn x0 (r, s) ps hp60 hq c3 c4, pathS_bad m b fun g q hg => W3_bad m c4 q ((hv g).mp hg).1]
          rfl
        | false =>
          obtain ⟨g, hg, q⟩ := W3_good m c4
          obtain ⟨e0, e1⟩ := goalQ_some q
          have e2 : (r, s) = g.2 := enc_inj e1
          have hgl : g ∈ gls := (hv g).mpr ⟨hg, fun k => by rw [(goal_in q).mpr k] at c3; cases c3⟩
          rw [e2] at c4 c3 hp hp60 ⊢
          rw [e0] at c4 c3 hp hp60 ⊢
          have hps : ∀ q ∈ ps, plain (2 * n) q = true := plains_mem (show plains (2 * n) ps = true from (plain_3 (n := 2 * n + 1) hp).2.2)
          have rl : (rowsW b left g).length ≤ 49 := by
            have a := List.length_filter_le (fun d => inList (enc g) ((gs b d).map enc)) left
            have b := hu.length_le
            have := (goals_le m h4).2.2.2
            unfold rowsW
            omega
          rw [W_on m b (M prog (k + (n + 1) + 2)) left dn g ps hp60 hq c3 c4 n (by omega) (fun d q => pathS m b n (Cov.going (gs b) left d) (Cov.still (gs b) gls d) q) (by omega) (by omega) (fun z hz w hw => pathS_len m b n _ _ _ w hw) (fun d hd => by
            rw [M_succ (h := rfl)]
            exact law_goals_ok m b _ d (law_pair_M (k + (n + 1)) m b d (hu.mem hd))) (fun z hz => ih _ _ _ _ (hps _ (List.of_mem_zip hz).2) (by omega) (List.filter_sublist.trans hu) (fun g' => by
            rw [Cov.mem_still, hv g', List.mem_append]
            exact ⟨fun h => ⟨h.1.1, fun k => k.elim h.1.2 h.2⟩, fun h => ⟨⟨h.1, fun k => h.2 (.inl k)⟩, fun k => h.2 (.inr k)⟩⟩) (by
            rw [List.length_append]
            have : (gs b z.1).length = 3 := rfl
            omega))]
          rw [rowsW_eq m b hu g nd]
          have sp : pathS m b (n + 1) left gls (.tup [enc g.1, enc g.2, .tup ps]) = if ps.length = (rowsOf m b left g).length then firstP (fun d q => pathS m b n (Cov.going (gs b) left d) (Cov.still (gs b) gls d) q) ((rowsOf m b left g).zip ps) else some [] := by
            have q : goalQ (enc g.1) (enc g.2) = some g := goalQ_enc g
            show (match goalQ (enc g.1) (enc g.2) with | some g => _ | none => _) = _
            rw [q]
            simp [hgl]
          rw [sp]
          split <;> rfl
end

/-! papers: what a right paper means; the law's bent papers -/
section
variable (m : Nat) (b : Cell → Nat)
theorem firstP_all {f : Dom → D → Option (List Dom)} : ∀ {zs : List (Dom × D)}, firstP f zs = none → ∀ z ∈ zs, f z.1 z.2 = none
  | [], _, z, h => by cases h
  | (d, q) :: t, e, z, h => by
    unfold firstP at e
    split at e
    · cases e
    · rename_i e1
      rcases List.mem_cons.mp h with rfl | h
      · exact e1
      · exact firstP_all e z h
theorem firstP_none {f : Dom → D → Option (List Dom)} : ∀ {zs : List (Dom × D)}, (∀ z ∈ zs, f z.1 z.2 = none) → firstP f zs = none
  | [], _ => rfl
  | (d, q) :: t, h => by
    unfold firstP
    rw [h (d, q) List.mem_cons_self]
    exact firstP_none fun z hz => h z (List.mem_cons_of_mem _ hz)
theorem zip_has {α β : Type} {d : α} : ∀ {xs : List α} {ys : List β}, xs.length = ys.length → d ∈ xs → ∃ q, (d, q) ∈ xs.zip ys
  | [], _, _, h => by cases h
  | x :: xs, [], e, _ => by simp at e
  | x :: xs, y :: ys, e, h => by
    rcases List.mem_cons.mp h with rfl | h
    · exact ⟨y, by simp⟩
    · obtain ⟨q, hq⟩ := zip_has (by simpa using e) h
      exact ⟨q, List.mem_cons_of_mem _ hq⟩
/-- a right paper: there is no cover -/
theorem pathS_none : ∀ (n : Nat) (left : List Dom) (gls : List Goal) (p : D), (∀ d ∈ left, d ∈ places m) → pathS m b n left gls p = none → ¬ ∃ w, Cov.IsCov (gs b) left gls w
  | 0, _, _, _, _, h => by cases h
  | n + 1, left, gls, p, hu, h => by
    unfold pathS at h
    split at h
    · rename_i x0 x1 ps
      split at h
      · rename_i g _
        split at h
        · rename_i hh
          rintro ⟨w, c⟩
          obtain ⟨d, hd, q⟩ := c.all g hh.1
          have hdl := c.sub d hd
          have hr : d ∈ rowsOf m b left g := by
            unfold rowsOf having
            exact List.mem_filter.mpr ⟨List.mem_filter.mpr ⟨hu d hdl, decide_eq_true q⟩, decide_eq_true hdl⟩
          obtain ⟨y, hy⟩ := zip_has hh.2.symm hr
          exact pathS_none n _ _ _ (fun x hx => hu x (Cov.mem_going.mp hx).1) (firstP_all h _ hy) ⟨_, c.erase hd⟩
        · cases h
      · cases h
    · cases h
theorem paper_right (h4 : m ≤ 4) : ∀ (j n k : Nat) (left : List Dom) (gls : List Goal), gls.length ≤ 3 * j → j + 1 ≤ k → gls.length ≤ n → gls.Nodup → (∀ d ∈ left, d ∈ places m) → (∀ d ∈ left, (gs b d).Nodup ∧ (gs b d).length = 3) → Cov.Inv (gs b) left gls → Cov.allC (rowsC m b) (gs b) n left gls = [] → pathS m b k left gls (paperD m b n left gls) = none := by
  intro j
  induction j with
  | zero =>
    intro n k left gls h1 h2 h3 hn hu ht hi hc
    have : gls = [] := List.length_eq_zero_iff.mp (by omega)
    subst this
    cases n <;> simp [Cov.allC] at hc
  | succ j ih =>
    intro n k left gls h1 h2 h3 hn hu ht hi hc
    cases gls with
    | nil => cases n <;> simp [Cov.allC] at hc
    | cons g0 t =>
      cases n with
      | zero => simp at h3
      | succ n =>
        obtain ⟨k, rfl⟩ : ∃ i, k = i + 1 := ⟨k - 1, by omega⟩
        obtain ⟨g, hg, e⟩ := scarce_some m b left (g0 :: t) (by simp)
        have er : rowsC m b left (g0 :: t) = rowsOf m b left g := by unfold rowsC; rw [e]
        unfold Cov.allC at hc
        rw [er] at hc
        unfold paperD
        rw [e]
        have q : goalQ (enc g.1) (enc g.2) = some g := goalQ_enc g
        show (match goalQ (enc g.1) (enc g.2) with | some g => _ | none => _) = _
        rw [q]
        show (if g ∈ g0 :: t ∧ _ then _ else _) = _
        rw [if_pos ⟨hg, by rw [List.length_map]⟩]
        refine firstP_none fun z hz => ?_
        have hz' : ∃ d ∈ rowsOf m b left g, z = (d, paperD m b n (Cov.going (gs b) left d) (Cov.still (gs b) (g0 :: t) d)) := by
          generalize rowsOf m b left g = rr at hz
          clear hc er e
          induction rr with
          | nil => simp at hz
          | cons d rr ih2 =>
            rw [List.map_cons, List.zip_cons_cons] at hz
            rcases List.mem_cons.mp hz with rfl | hz
            · exact ⟨d, List.mem_cons_self, rfl⟩
            · obtain ⟨d', h1, h2⟩ := ih2 hz
              exact ⟨d', List.mem_cons_of_mem _ h1, h2⟩
        obtain ⟨d, hd, rfl⟩ := hz'
        have hdl := rowsC_left m b (er ▸ hd : d ∈ rowsC m b left (g0 :: t))
        obtain ⟨t1, t2⟩ := ht d hdl
        have l3 := Cov.still_three hn t1 (hi.sub d hdl)
        have l4 := Cov.still_lt hi hdl
        rw [List.flatMap_eq_nil_iff] at hc
        show pathS m b k (Cov.going (gs b) left d) (Cov.still (gs b) (g0 :: t) d) (paperD m b n (Cov.going (gs b) left d) (Cov.still (gs b) (g0 :: t) d)) = none
        exact ih n k _ _ (by omega) (by omega) (by omega) (hn.filter _) (fun x hx => hu x (Cov.mem_going.mp hx).1) (fun x hx => ht x (Cov.mem_going.mp hx).1) (hi.step d) (by simpa using hc d hd)
end

/-! papers: the law's bent papers -/
section
variable (m : Nat) (b : Cell → Nat)
def base0 : List D := [.non, .tup [], .int 7, .tup [.str sCell, .tup [.int 0, .int 0], .tup []], .tup [.str sPair, .tup [.int 0, .int 0], .tup []], .tup [.str [67, 101, 108, 108], .tup [.int 0, .int 0], .tup []], .tup [.str sCell, .tup [.int 9, .int 0], .tup []], .tup [.str sPair, .tup [.int 1, .int 0], .tup []], .tup [.str sCell, .tup [.int 0, .bl true], .tup []], .tup [.str sCell, .non, .tup []]]
def base1 (m : Nat) : List D := base0 ++ (List.range (m + 1)).map fun r => .tup [.str sPair, .tup [.int (r : Nat), .int m], .tup []]
theorem base1_plain : plains 60 (base1 m) = true := by
  have p0 : plains 60 base0 = true := rfl
  have ap : ∀ (xs ys : List D), plains 60 xs = true → plains 60 ys = true → plains 60 (xs ++ ys) = true := by
    intro xs
    induction xs with
    | nil => intro ys _ h; exact h
    | cons x xs ih =>
      intro ys h k
      simp only [plains, Bool.and_eq_true] at h
      simp only [List.cons_append, plains, Bool.and_eq_true]
      exact ⟨h.1, ih ys h.2 k⟩
  refine ap _ _ p0 ?_
  have : ∀ xs : List Nat, plains 60 (xs.map fun r => D.tup [.str sPair, .tup [.int (r : Nat), .int m], .tup []]) = true := by
    intro xs
    induction xs with
    | nil => rfl
    | cons x xs ih =>
      simp only [List.map_cons, plains, Bool.and_eq_true]
      exact ⟨rfl, ih⟩
  exact this _
theorem bent_pre (Φ : Phi) (h : m ≤ 3) (ds pp : D) : exs Φ (b__law_bent.take 3) [some (fz ds), some (fz (boardD m b)), some (fz pp), none, none, none, none, none] = .ok (.nx [some (fz ds), some (fz (boardD m b)), some (fz pp), some (fz (.int m)), some (oL (base1 m)), some (fz (.int m)), none, none]) := by
  match m, h with
  | 0, _ => kernel_rfl
  | 1, _ => kernel_rfl
  | 2, _ => kernel_rfl
  | 3, _ => kernel_rfl
theorem bent_none (Φ : Phi) (h : m ≤ 3) (ds : D) : runFn Φ i__law_bent [fz ds, fz (boardD m b), fz .non] = .ok (oL (base1 m)) [] := by
  refine runFn_rt (ρ0 := [some (fz ds), some (fz (boardD m b)), some (fz .non), none, none, none, none, none]) (ρ := [some (fz ds), some (fz (boardD m b)), some (fz .non), some (fz (.int m)), none, some (fz (.int m)), none, none]) (ss := []) rfl rfl rfl ?_ rfl
  show exs Φ b__law_bent _ = _
  rw [show b__law_bent = b__law_bent.take 3 ++ b__law_bent.drop 3 from rfl, exs_append, bent_pre m b Φ h, RS.seq_nx]
  have e : ev Φ (.cmp .isn (.var 2) (.lit (.non))) [some (fz ds), some (fz (boardD m b)), some (fz .non), some (fz (.int m)), some (oL (base1 m)), some (fz (.int m)), none, none] = .ok (fz (.bl false)) := rfl
  have sp : b__law_bent.drop 3 = [.if_ (.cmp .isn (.var 2) (.lit (.non))) (match (b__law_bent.drop 3).head? with | some (.if_ _ x _) => x | _ => []) []] ++ [.retv 4] := rfl
  rw [sp, exs_append, if_ff e, RS.seq_nx]
  simp -implicitDefEqProofs
def bN1 : List S := [.asg (.nm 4) (.bin .add (.var 4) (.lst [(.var 2), (.bi .list [(.var 2)]), (.slc (.var 2) none (some (.lit (.int 2)))), (.bin .add (.var 2) (.tup [(.lit (.int 0))])), (.tup [(.idx (.var 2) (.lit (.int 0))), (.rev (.idx (.var 2) (.lit (.int 1)))), (.idx (.var 2) (.lit (.int 2)))]), (.tup [(.ite (.cmp .eq (.idx (.var 2) (.lit (.int 0))) (.lit (.str [99, 101, 108, 108]))) (.lit (.str [112, 97, 105, 114])) (.lit (.str [99, 101, 108, 108]))), (.idx (.var 2) (.lit (.int 1))), (.idx (.var 2) (.lit (.int 2)))])])), .asg (.nm 6) (.idx (.var 2) (.lit (.int 2))), .frz [6]]
def bN2 : List S := [.asg (.nm 7) (.bin .mod (.bi .int [(.idx (.var 0) (.lit (.int 0)))]) (.bi .len [(.var 6)])), .asg (.nm 4) (.bin .add (.var 4) (.lst [(.bin .add (.slc (.var 2) none (some (.lit (.int 2)))) (.tup [(.slc (.var 6) (some (.lit (.int 1))) none)])), (.bin .add (.slc (.var 2) none (some (.lit (.int 2)))) (.tup [(.rev (.var 6))])), (.bin .add (.slc (.var 2) none (some (.lit (.int 2)))) (.tup [(.bin .add (.var 6) (.slc (.var 6) (some (.neg (.lit (.int 1)))) none))])), (.bin .add (.slc (.var 2) none (some (.lit (.int 2)))) (.tup [(.bin .add (.bin .add (.slc (.var 6) none (some (.var 7))) (.tup [(.lit (.non))])) (.slc (.var 6) (some (.bin .add (.var 7) (.lit (.int 1)))) none))])), (.idx (.var 6) (.var 7))])), .asg (.nm 4) (.bin .add (.var 4) (.lst [(.bin .add (.slc (.var 2) none (some (.lit (.int 2)))) (.tup [(.bin .add (.bin .add (.slc (.var 6) none (some (.var 7))) (.tup [(.var 2)])) (.slc (.var 6) (some (.bin .add (.var 7) (.lit (.int 1)))) none))])), (.bin .add (.slc (.var 2) none (some (.lit (.int 2)))) (.tup [(.bin .add (.bin .add (.slc (.var 6) none (some (.var 7))) (.tup [(.tup [(.lit (.str [99, 101, 108, 108])), (.tup [(.lit (.int 0)), (.lit (.int 0))]), (.tup [])])])) (.slc (.var 6) (some (.bin .add (.var 7) (.lit (.int 1)))) none))]))]))]
theorem bent_rest : b__law_bent.drop 3 = [.if_ (.cmp .isn (.var 2) (.lit (.non))) (bN1 ++ [.if_ (.cmp .gt (.bi .len [(.var 6)]) (.lit (.int 0))) bN2 []]) []] ++ [.retv 4] := rfl
def ext1 (x0 u v x2 : D) (y0 : List Nat) : List D := [.tup [x0, .tup [u, v], x2], .lst [x0, .tup [u, v], x2], .tup [x0, .tup [u, v]], .tup [x0, .tup [u, v], x2, .int 0], .tup [x0, .tup [v, u], x2], .tup [.str y0, .tup [u, v], x2]]
theorem bN1_ok (Φ : Phi) (ds : D) (L : List D) (hL : L.length ≤ 1000) (x0 u v : D) (inner : List D) (hp : plain 60 x0 = true) (x3 x5 : Option SV) : ∃ y0, exs Φ bN1 [some (fz ds), some (fz (boardD m b)), some (fz (.tup [x0, .tup [u, v], .tup inner])), x3, some (oL L), x5, none, none] = .ok (.nx [some (fz ds), some (fz (boardD m b)), some (fz (.tup [x0, .tup [u, v], .tup inner])), x3, some (oL (L ++ ext1 x0 u v (.tup inner) y0)), x5, some (fz (.tup inner)), none]) := by
  have cs : cutS (fz (.tup [x0, .tup [u, v], .tup inner])) none (some 2) = some (fz (.tup [x0, .tup [u, v]])) := rfl
  have rv : revS (fz (.tup [u, v])) = some (fz (.tup [v, u])) := rfl
  have ce : cmpS .eq (fz x0) (fz (.str [99, 101, 108, 108])) = some (eqD x0 (.str [99, 101, 108, 108])) := cmp_str hp _
  have hl : L.length + 6 ≤ 16777216 := by omega
  cases q : eqD x0 (.str [99, 101, 108, 108]) with
  | true =>
    rw [q] at ce
    refine ⟨[112, 97, 105, 114], ?_⟩
    simp -implicitDefEqProofs [bN1, cs, rv, ce, hl, ext1, -u_cmpS]
  | false =>
    rw [q] at ce
    refine ⟨[99, 101, 108, 108], ?_⟩
    simp -implicitDefEqProofs [bN1, cs, rv, ce, hl, ext1, -u_cmpS]
theorem cut_len (xs : List D) (lo hi : Option Int) : (cut xs lo hi).length ≤ xs.length := by
  unfold cut
  rw [List.length_take, List.length_drop]
  omega
def ext2 (x0 u v pp q : D) (inner A B C1 C2 : List D) : List D := [.tup [x0, .tup [u, v], .tup A], .tup [x0, .tup [u, v], .tup inner.reverse], .tup [x0, .tup [u, v], .tup (inner ++ B)], .tup [x0, .tup [u, v], .tup (C1 ++ (.non :: C2))], q, .tup [x0, .tup [u, v], .tup (C1 ++ (pp :: C2))], .tup [x0, .tup [u, v], .tup (C1 ++ (.tup [.str sCell, .tup [.int 0, .int 0], .tup []] :: C2))]]
theorem bN2_ok (Φ : Phi) (es : List Int) (a : Int) (ha : es[0]? = some a) (L : List D) (hL : L.length ≤ 1000) (x0 u v q : D) (inner : List D) (hi : 0 < inner.length) (hz : inner.length ≤ 1000) (hq : atI inner (a % (inner.length : Int)) = some q) (x3 x5 : Option SV) : exs Φ bN2 [some (fz (.lst (es.map enc))), some (fz (boardD m b)), some (fz (.tup [x0, .tup [u, v], .tup inner])), x3, some (oL L), x5, some (fz (.tup inner)), none] = .ok (.nx [some (fz (.lst (es.map enc))), some (fz (boardD m b)), some (fz (.tup [x0, .tup [u, v], .tup inner])), x3, some (oL (L ++ ext2 x0 u v (.tup [x0, .tup [u, v], .tup inner]) q inner (cut inner (some 1) none) (cut inner (some (-1)) none) (cut inner none (some (a % (inner.length : Int)))) (cut inner (some (a % (inner.length : Int) + 1)) none))), x5, some (fz (.tup inner)), some (fz (.int (a % (inner.length : Int))))]) := by
  have cs : cutS (fz (.tup [x0, .tup [u, v], .tup inner])) none (some 2) = some (fz (.tup [x0, .tup [u, v]])) := rfl
  have rv : revS (fz (.tup inner)) = some (fz (.tup inner.reverse)) := rfl
  have c1 : cutS (fz (.tup inner)) (some 1) none = some (fz (.tup (cut inner (some 1) none))) := rfl
  have c2 : cutS (fz (.tup inner)) (some (-1)) none = some (fz (.tup (cut inner (some (-1)) none))) := rfl
  have c3 : cutS (fz (.tup inner)) none (some (a % (inner.length : Int))) = some (fz (.tup (cut inner none (some (a % (inner.length : Int)))))) := rfl
  have c4 : cutS (fz (.tup inner)) (some (a % (inner.length : Int) + 1)) none = some (fz (.tup (cut inner (some (a % (inner.length : Int) + 1)) none))) := rfl
  have l1 := cut_len inner (some 1) none
  have l2 := cut_len inner (some (-1)) none
  have l3 := cut_len inner none (some (a % (inner.length : Int)))
  have l4 := cut_len inner (some (a % (inner.length : Int) + 1)) none
  have s7 : exs Φ (bN2.take 1) [some (fz (.lst (es.map enc))), some (fz (boardD m b)), some (fz (.tup [x0, .tup [u, v], .tup inner])), x3, some (oL L), x5, some (fz (.tup inner)), none] = .ok (.nx [some (fz (.lst (es.map enc))), some (fz (boardD m b)), some (fz (.tup [x0, .tup [u, v], .tup inner])), x3, some (oL L), x5, some (fz (.tup inner)), some (fz (.int (a % (inner.length : Int))))]) := by
    show exs Φ [.asg (.nm 7) (.bin .mod (.bi .int [(.idx (.var 0) (.lit (.int 0)))]) (.bi .len [(.var 6)]))] _ = _
    have hi' : (0 : Int) < inner.length := by omega
    simp -implicitDefEqProofs [ha, enc_int, hi, hi']
  rw [show bN2 = bN2.take 1 ++ bN2.drop 1 from rfl, exs_append, s7, RS.seq_nx]
  generalize a % (inner.length : Int) = k at hq c3 c4 l3 l4 ⊢
  have q1 : idxS (fz (.tup inner)) (.int k) = some (fz q) := by
    show (match atI inner k with | some d => some (fz d) | none => none) = _
    rw [hq]
  generalize cut inner (some 1) none = A at c1 l1 ⊢
  generalize cut inner (some (-1)) none = B at c2 l2 ⊢
  generalize cut inner none (some k) = C1 at c3 l3 ⊢
  generalize cut inner (some (k + 1)) none = C2 at c4 l4 ⊢
  have z1 : inner.length + B.length ≤ 16777216 := by omega
  have z2 : C1.length + (C2.length + 1) ≤ 16777216 := by omega
  have z3 : C1.length + 1 ≤ 16777216 := by omega
  have z5 : C1.length + 1 + C2.length ≤ 16777216 := by omega
  have z4 : L.length + 5 ≤ 16777216 := by omega
  have z6 : L.length + 5 + 2 ≤ 16777216 := by omega
  have z7 : L.length + 7 ≤ 16777216 := by omega
  show exs Φ (bN2.drop 1) _ = _
  have sp : bN2.drop 1 = [.asg (.nm 4) (.bin .add (.var 4) (.lst [(.bin .add (.slc (.var 2) none (some (.lit (.int 2)))) (.tup [(.slc (.var 6) (some (.lit (.int 1))) none)])), (.bin .add (.slc (.var 2) none (some (.lit (.int 2)))) (.tup [(.rev (.var 6))])), (.bin .add (.slc (.var 2) none (some (.lit (.int 2)))) (.tup [(.bin .add (.var 6) (.slc (.var 6) (some (.neg (.lit (.int 1)))) none))])), (.bin .add (.slc (.var 2) none (some (.lit (.int 2)))) (.tup [(.bin .add (.bin .add (.slc (.var 6) none (some (.var 7))) (.tup [(.lit (.non))])) (.slc (.var 6) (some (.bin .add (.var 7) (.lit (.int 1)))) none))])), (.idx (.var 6) (.var 7))]))] ++ bN2.drop 2 := rfl
  have s8 : exs Φ [.asg (.nm 4) (.bin .add (.var 4) (.lst [(.bin .add (.slc (.var 2) none (some (.lit (.int 2)))) (.tup [(.slc (.var 6) (some (.lit (.int 1))) none)])), (.bin .add (.slc (.var 2) none (some (.lit (.int 2)))) (.tup [(.rev (.var 6))])), (.bin .add (.slc (.var 2) none (some (.lit (.int 2)))) (.tup [(.bin .add (.var 6) (.slc (.var 6) (some (.neg (.lit (.int 1)))) none))])), (.bin .add (.slc (.var 2) none (some (.lit (.int 2)))) (.tup [(.bin .add (.bin .add (.slc (.var 6) none (some (.var 7))) (.tup [(.lit (.non))])) (.slc (.var 6) (some (.bin .add (.var 7) (.lit (.int 1)))) none))])), (.idx (.var 6) (.var 7))]))] [some (fz (.lst (es.map enc))), some (fz (boardD m b)), some (fz (.tup [x0, .tup [u, v], .tup inner])), x3, some (oL L), x5, some (fz (.tup inner)), some (fz (.int k))] = .ok (.nx [some (fz (.lst (es.map enc))), some (fz (boardD m b)), some (fz (.tup [x0, .tup [u, v], .tup inner])), x3, some (oL (L ++ [.tup [x0, .tup [u, v], .tup A], .tup [x0, .tup [u, v], .tup inner.reverse], .tup [x0, .tup [u, v], .tup (inner ++ B)], .tup [x0, .tup [u, v], .tup (C1 ++ (.non :: C2))], q])), x5, some (fz (.tup inner)), some (fz (.int k))]) := by
    have ng : ∀ ρ, ev Φ (.neg (.lit (.int 1))) ρ = .ok (fz (.int (-1))) := fun ρ => by rw [ev, ev_lit]; rfl
    simp -implicitDefEqProofs [cs, rv, c1, c2, c3, c4, q1, z1, z2, z3, z4, z5, ng]
  rw [sp, exs_append, s8, RS.seq_nx]
  have sp2 : bN2.drop 2 = [.asg (.nm 4) (.bin .add (.var 4) (.lst [(.bin .add (.slc (.var 2) none (some (.lit (.int 2)))) (.tup [(.bin .add (.bin .add (.slc (.var 6) none (some (.var 7))) (.tup [(.var 2)])) (.slc (.var 6) (some (.bin .add (.var 7) (.lit (.int 1)))) none))])), (.bin .add (.slc (.var 2) none (some (.lit (.int 2)))) (.tup [(.bin .add (.bin .add (.slc (.var 6) none (some (.var 7))) (.tup [(.tup [(.lit (.str [99, 101, 108, 108])), (.tup [(.lit (.int 0)), (.lit (.int 0))]), (.tup [])])])) (.slc (.var 6) (some (.bin .add (.var 7) (.lit (.int 1)))) none))]))]))] := rfl
  rw [sp2]
  simp -implicitDefEqProofs [cs, rv, c3, c4, z1, z2, z3, z4, z5, z6, z7, ext2, sCell]
end

/-! papers: bent ones are plain; boards that are drawn anew -/
section
theorem plains_iff {n : Nat} {ds : List D} : plains n ds = true ↔ ∀ d ∈ ds, plain n d = true := by
  constructor
  · exact fun h => plains_mem h
  · intro h
    induction ds with
    | nil => rfl
    | cons x xs ih =>
      simp only [plains, Bool.and_eq_true]
      exact ⟨h x List.mem_cons_self, ih fun d hd => h d (List.mem_cons_of_mem _ hd)⟩
theorem cut_mem {xs : List D} {lo hi : Option Int} {x : D} (h : x ∈ cut xs lo hi) : x ∈ xs := by
  unfold cut at h
  exact List.mem_of_mem_drop (List.mem_of_mem_take h)
theorem plain_t {n : Nat} {ds : List D} (h : ∀ d ∈ ds, plain n d = true) : plain (n + 1) (.tup ds) = true := plains_iff.mpr h
variable (m : Nat) (b : Cell → Nat)
theorem bent_some (Φ : Phi) (h : m ≤ 3) (es : List Int) (he : es ≠ []) (x0 u v : D) (inner : List D) (hp : plain 40 (.tup [x0, .tup [u, v], .tup inner]) = true) (hz : inner.length ≤ 1000) : ∃ Ds, (∀ d ∈ Ds, plain 60 d = true) ∧ runFn Φ i__law_bent [fz (.lst (es.map enc)), fz (boardD m b), fz (.tup [x0, .tup [u, v], .tup inner])] = .ok (oL Ds) [] := by
  obtain ⟨p0, p1, p2⟩ := plain_3 (n := 39) hp
  have p1' : plains 38 [u, v] = true := p1
  simp only [plains, Bool.and_true, Bool.and_eq_true] at p1'
  obtain ⟨pu, pv⟩ := p1'
  have p2' : ∀ d ∈ inner, plain 38 d = true := plains_mem (show plains 38 inner = true from p2)
  have lb : (base1 m).length ≤ 100 := by
    unfold base1
    rw [List.length_append, List.length_map, List.length_range]
    have : base0.length = 10 := rfl
    omega
  obtain ⟨y0, s1⟩ := bN1_ok m b Φ (.lst (es.map enc)) (base1 m) (by omega) x0 u v inner (plain_le (by omega) p0) (some (fz (.int m))) (some (fz (.int m)))
  have e1 : ∀ d ∈ ext1 x0 u v (.tup inner) y0, plain 60 d = true := by
    have a0 : ∀ k, 39 ≤ k → plain k x0 = true := fun k hk => plain_le hk p0
    have a1 : ∀ k, 39 ≤ k → plain k (.tup [u, v]) = true := fun k hk => plain_le hk p1
    have a2 : ∀ k, 39 ≤ k → plain k (.tup inner) = true := fun k hk => plain_le hk p2
    have a3 : plain 59 (.tup [v, u]) = true := plain_le (n := 39) (by omega) (plain_2 pv pu)
    intro d hd
    simp only [ext1, List.mem_cons, List.not_mem_nil, or_false] at hd
    rcases hd with rfl | rfl | rfl | rfl | rfl | rfl
    · exact plain_le (by omega) hp
    · show plains 59 [x0, .tup [u, v], .tup inner] = true
      refine plains_iff.mpr fun d hd => ?_
      simp only [List.mem_cons, List.not_mem_nil, or_false] at hd
      rcases hd with rfl | rfl | rfl
      · exact a0 59 (by omega)
      · exact a1 59 (by omega)
      · exact a2 59 (by omega)
    · exact plain_2 (a0 _ (by omega)) (a1 _ (by omega))
    · refine plain_t fun d hd => ?_
      simp only [List.mem_cons, List.not_mem_nil, or_false] at hd
      rcases hd with rfl | rfl | rfl | rfl
      · exact a0 _ (by omega)
      · exact a1 _ (by omega)
      · exact a2 _ (by omega)
      · rfl
    · refine plain_t fun d hd => ?_
      simp only [List.mem_cons, List.not_mem_nil, or_false] at hd
      rcases hd with rfl | rfl | rfl
      · exact a0 _ (by omega)
      · exact a3
      · exact a2 _ (by omega)
    · refine plain_t fun d hd => ?_
      simp only [List.mem_cons, List.not_mem_nil, or_false] at hd
      rcases hd with rfl | rfl | rfl
      · rfl
      · exact a1 _ (by omega)
      · exact a2 _ (by omega)
  have b1 : ∀ d ∈ base1 m, plain 60 d = true := plains_mem (base1_plain m)
  have t1 : ev Φ (.cmp .isn (.var 2) (.lit (.non))) [some (fz (.lst (es.map enc))), some (fz (boardD m b)), some (fz (.tup [x0, .tup [u, v], .tup inner])), some (fz (.int m)), some (oL (base1 m)), some (fz (.int m)), none, none] = .ok (fz (.bl true)) := rfl
  have fin : ∃ Ds, (∀ d ∈ Ds, plain 60 d = true) ∧ ∃ x7, exs Φ (bN1 ++ [.if_ (.cmp .gt (.bi .len [(.var 6)]) (.lit (.int 0))) bN2 []]) [some (fz (.lst (es.map enc))), some (fz (boardD m b)), some (fz (.tup [x0, .tup [u, v], .tup inner])), some (fz (.int m)), some (oL (base1 m)), some (fz (.int m)), none, none] = .ok (.nx [some (fz (.lst (es.map enc))), some (fz (boardD m b)), some (fz (.tup [x0, .tup [u, v], .tup inner])), some (fz (.int m)), some (oL Ds), some (fz (.int m)), some (fz (.tup inner)), x7]) := by
    rw [exs_append, s1, RS.seq_nx]
    by_cases hi : inner = []
    · subst hi
      refine ⟨base1 m ++ ext1 x0 u v (.tup []) y0, fun d hd => ?_, none, ?_⟩
      · rcases List.mem_append.mp hd with hd | hd
        · exact b1 d hd
        · exact e1 d hd
      · exact if_ff (by simp -implicitDefEqProofs)
    · have hi' : 0 < inner.length := List.length_pos_iff.mpr hi
      obtain ⟨a, ha⟩ : ∃ a, es[0]? = some a := by
        cases es with
        | nil => exact absurd rfl he
        | cons a t => exact ⟨a, rfl⟩
      obtain ⟨q, hq, eq⟩ := atI_mod id hi a
      rw [List.map_id] at eq
      have s2 := bN2_ok m b Φ es a ha (base1 m ++ ext1 x0 u v (.tup inner) y0) (by
        rw [List.length_append]
        have : (ext1 x0 u v (.tup inner) y0).length = 6 := rfl
        omega) x0 u v q inner hi' hz eq (some (fz (.int m))) (some (fz (.int m)))
      have t2 : ev Φ (.cmp .gt (.bi .len [(.var 6)]) (.lit (.int 0))) [some (fz (.lst (es.map enc))), some (fz (boardD m b)), some (fz (.tup [x0, .tup [u, v], .tup inner])), some (fz (.int m)), some (oL (base1 m ++ ext1 x0 u v (.tup inner) y0)), some (fz (.int m)), some (fz (.tup inner)), none] = .ok (fz (.bl true)) := by
        have : (0 : Int) < inner.length := by omega
        simp -implicitDefEqProofs [hi']
      have go : ∀ ρ ρ', ev Φ (.cmp .gt (.bi .len [(.var 6)]) (.lit (.int 0))) ρ = .ok (fz (.bl true)) → exs Φ bN2 ρ = .ok (.nx ρ') → exs Φ [.if_ (.cmp .gt (.bi .len [(.var 6)]) (.lit (.int 0))) bN2 []] ρ = .ok (.nx ρ') := fun ρ ρ' h1 h2 => by
        rw [exs_cons, ex_if, h1, R.ok_bind, boolS_bl, RS.of_ok, if_pos rfl, h2, RS.seq_nx, exs_nil]
      refine ⟨_, fun d hd => ?_, _, go _ _ t2 s2⟩
      have a0 : plain 59 x0 = true := plain_le (by omega) p0
      have a1 : plain 59 (.tup [u, v]) = true := plain_le (by omega) p1
      have three : ∀ ys : List D, (∀ y ∈ ys, plain 58 y = true) → plain 60 (.tup [x0, .tup [u, v], .tup ys]) = true := fun ys hy => by
        refine plain_t fun d hd => ?_
        simp only [List.mem_cons, List.not_mem_nil, or_false] at hd
        rcases hd with rfl | rfl | rfl
        · exact a0
        · exact a1
        · exact plain_t hy
      have p58 : ∀ d ∈ inner, plain 58 d = true := fun d hd => plain_le (by omega) (p2' d hd)
      have app : ∀ (xs ys : List D) (z : D), (∀ x ∈ xs, x ∈ inner) → (∀ y ∈ ys, y ∈ inner) → plain 58 z = true → ∀ y ∈ xs ++ (z :: ys), plain 58 y = true := fun xs ys z h1 h2 h3 y hy => by
        rcases List.mem_append.mp hy with hy | hy
        · exact p58 y (h1 y hy)
        · rcases List.mem_cons.mp hy with rfl | hy
          · exact h3
          · exact p58 y (h2 y hy)
      rcases List.mem_append.mp hd with hd | hd
      · rcases List.mem_append.mp hd with hd | hd
        · exact b1 d hd
        · exact e1 d hd
      · simp only [ext2, List.mem_cons, List.not_mem_nil, or_false] at hd
        rcases hd with rfl | rfl | rfl | rfl | rfl | rfl | rfl
        · exact three _ fun y hy => p58 y (cut_mem hy)
        · exact three _ fun y hy => p58 y (by simpa using hy)
        · refine three _ fun y hy => ?_
          rcases List.mem_append.mp hy with hy | hy
          · exact p58 y hy
          · exact p58 y (cut_mem hy)
        · exact three _ (app _ _ _ (fun _ h => cut_mem h) (fun _ h => cut_mem h) rfl)
        · exact plain_le (by omega) (p2' _ hq)
        · exact three _ (app _ _ _ (fun _ h => cut_mem h) (fun _ h => cut_mem h) (plain_le (by omega) hp))
        · exact three _ (app _ _ _ (fun _ h => cut_mem h) (fun _ h => cut_mem h) rfl)
  obtain ⟨Ds, hD, x7, s⟩ := fin
  refine ⟨Ds, hD, ?_⟩
  refine runFn_rt (ρ0 := [some (fz (.lst (es.map enc))), some (fz (boardD m b)), some (fz (.tup [x0, .tup [u, v], .tup inner])), none, none, none, none, none]) (ρ := [some (fz (.lst (es.map enc))), some (fz (boardD m b)), some (fz (.tup [x0, .tup [u, v], .tup inner])), some (fz (.int m)), none, some (fz (.int m)), some (fz (.tup inner)), x7]) (ss := []) rfl rfl rfl ?_ rfl
  show exs Φ b__law_bent _ = _
  rw [show b__law_bent = b__law_bent.take 3 ++ b__law_bent.drop 3 from rfl, exs_append, bent_pre m b Φ h, RS.seq_nx, bent_rest, exs_append]
  rw [exs_cons, ex_if, t1, R.ok_bind, boolS_bl, RS.of_ok, if_pos rfl, s, RS.seq_nx, exs_nil, RS.seq_nx]
  simp -implicitDefEqProofs
end

/-! papers: the law's boards -/
section
variable {m : Nat} {b : Cell → Nat}
/-- a turn's variables -/
def envQ (x0 x1 x2 : Option SV) (m : Nat) (bd : SV) (x5 x6 x7 x8 x9 : Option SV) : Env := [x0, x1, x2, some (fz (.int m)), some bd, x5, x6, x7, x8, x9, none, none]
def qA : List S := [.asg (.nm 3) (.idx (.lst [(.lit (.int 1)), (.lit (.int 2)), (.lit (.int 3)), (.lit (.int 2)), (.lit (.int 3))]) (.var 2)), .frz [3], .asg (.nm 4) (.call n__law_board [(.slc (.var 1) (some (.bin .mul (.lit (.int 8)) (.var 2))) (some (.bin .add (.bin .mul (.lit (.int 8)) (.var 2)) (.lit (.int 20))))), (.var 3)]), .frz [4]]
def qElt : E := .bin .mod (.bin .fdiv (.bi .int [(.idx (.var 1) (.bin .mod (.bin .add (.bin .add (.bin .mul (.var 10) (.lit (.int 7))) (.var 11)) (.var 2)) (.lit (.int 60))))]) (.bin .add (.lit (.int 1)) (.var 10))) (.bin .add (.var 3) (.lit (.int 1)))
def qRow : E := .bi .tuple [(.comp qElt (.nm 11) (.rng [(.bin .add (.var 3) (.lit (.int 2)))]) [] [11])]
def qBd : E := .bi .tuple [(.comp qRow (.nm 10) (.rng [(.bin .add (.var 3) (.lit (.int 1)))]) [] [10])]
def qB : S := .if_ (.cmp .gt (.var 2) (.lit (.int 2))) [.asg (.nm 4) qBd] []
def qC : List S := [.par [6, 7, 8] [(.call n__law_all [(.var 4)]), (.call n_first_laying [(.var 4)]), (.call n__law_places [(.var 3)])], .frz [6, 7, 8]]
def qD : List S := [.if_ (.cmp .ne (.cmp .eq (.idx (.var 7) (.lit (.int 0))) (.lit (.str [110, 111, 110, 101]))) (.cmp .eq (.bi .len [(.var 6)]) (.lit (.int 0)))) [.ret (.lit (.bl false))] []]
def qE : List S := [.if_ (.and (.cmp .eq (.bi .len [(.var 6)]) (.lit (.int 0))) (.or (.cmp .isn (.call n__law_path [(.var 4), (.var 8), (.lst []), (.idx (.var 7) (.lit (.int 1)))]) (.lit (.non))) (.cmp .isn (.call n_paper_fault [(.var 4), (.idx (.var 7) (.lit (.int 1)))]) (.lit (.non))))) [.ret (.lit (.bl false))] []]
def qFz : List S := [.asg (.nm 9) (.call n__law_path [(.var 4), (.var 8), (.lst []), (.var 5)]), .frz [9], .if_ (.or (.cmp .ne (.call n_paper_fault [(.var 4), (.var 5)]) (.var 9)) (.and (.cmp .is_ (.var 9) (.lit (.non))) (.cmp .gt (.bi .len [(.var 6)]) (.lit (.int 0))))) [.ret (.lit (.bl false))] []]
def qF : List S := [.for_ (.nm 5) (.seq (.call n__law_bent [(.slc (.var 1) (some (.bin .add (.lit (.int 50)) (.var 2))) none), (.var 4), (.ite (.cmp .eq (.bi .len [(.var 6)]) (.lit (.int 0))) (.idx (.var 7) (.lit (.int 1))) (.lit (.non)))])) qFz]
def qTurn : List S := qA ++ ([qB] ++ (qC ++ (qD ++ (qE ++ qF))))
def qEnd : S := .ret (.and (.cmp .is_ (.call n_paper_fault [(.tup [(.tup [(.lit (.int 0)), (.lit (.int 0)), (.lit (.int 0))]), (.tup [(.lit (.int 0)), (.lit (.int 0)), (.lit (.int 0))])]), (.tup [(.lit (.str [112, 97, 105, 114])), (.tup [(.lit (.int 0)), (.lit (.int 1))]), (.tup [])])]) (.lit (.non))) (.cmp .eq (.call n_paper_fault [(.tup [(.tup [(.lit (.int 0)), (.lit (.int 0)), (.lit (.int 0))]), (.tup [(.lit (.int 0)), (.lit (.int 0)), (.lit (.int 0))])]), (.tup [(.lit (.str [112, 97, 105, 114])), (.tup [(.lit (.int 0)), (.lit (.int 0))]), (.tup [])])]) (.tup [])))
theorem law_body : b_law = [.asg (.nm 1) (.call n__law_draws [(.var 0), (.lit (.int 60))]), .frz [1], .for_ (.nm 2) (.rng [(.lit (.int 5))]) qTurn, qEnd] := rfl
theorem cut_20 (ds : List Int) (k : Nat) (h : k + 20 ≤ ds.length) : cutS (fz (.lst (ds.map enc))) (some (k : Int)) (some ((k : Int) + 20)) = some (oL (((ds.drop k).take 20).map enc)) := by
  show some (oL (cut (ds.map enc) _ _)) = _
  have h1 : ¬ ((k : Int) < 0) := by omega
  have h2 : ¬ ((k : Int) + 20 < 0) := by omega
  have h3 : min (k : Int).toNat (ds.map (enc : Int → D)).length = k := by simp; omega
  have h4 : min ((k : Int) + 20).toNat (ds.map (enc : Int → D)).length = k + 20 := by simp; omega
  unfold cut sIx
  simp only [h1, h2, if_false, h3, h4]
  rw [show k + 20 - k = 20 by omega, ← List.map_drop, ← List.map_take]
theorem qA_ok (Φ : Phi) (ds : List Int) (hd : ds.length = 60) (t : Nat) (ht : t < 5) (hB : ∀ m : Nat, m ≤ 3 → ∀ es : List Int, es.length = 20 → ∃ b, OkB m b ∧ Φ n__law_board [fz (.lst (es.map enc)), fz (.int m)] = .ok (fz (boardD m b)) []) (x0 x3 x4 x5 x6 x7 x8 x9 : Option SV) :
    ∃ m b, m ≤ 3 ∧ OkB m b ∧ exs Φ qA [x0, some (fz (.lst (ds.map enc))), some (fz (.int t)), x3, x4, x5, x6, x7, x8, x9, none, none] = .ok (.nx (envQ x0 (some (fz (.lst (ds.map enc)))) (some (fz (.int t))) m (fz (boardD m b)) x5 x6 x7 x8 x9)) := by
  simp only [n__law_board] at hB
  have main : ∀ m : Nat, m ≤ 3 → ev Φ (.idx (.lst [(.lit (.int 1)), (.lit (.int 2)), (.lit (.int 3)), (.lit (.int 2)), (.lit (.int 3))]) (.var 2)) [x0, some (fz (.lst (ds.map enc))), some (fz (.int t)), x3, x4, x5, x6, x7, x8, x9, none, none] = .ok (fz (.int m)) → ∃ m b, m ≤ 3 ∧ OkB m b ∧ exs Φ qA [x0, some (fz (.lst (ds.map enc))), some (fz (.int t)), x3, x4, x5, x6, x7, x8, x9, none, none] = .ok (.nx (envQ x0 (some (fz (.lst (ds.map enc)))) (some (fz (.int t))) m (fz (boardD m b)) x5 x6 x7 x8 x9)) := by
    intro m hm e
    obtain ⟨b, B, hb⟩ := hB m hm ((ds.drop (8 * t)).take 20) (by simp; omega)
    refine ⟨m, b, hm, B, ?_⟩
    have c := cut_20 ds (8 * t) (by omega)
    have s8 : small64 8 = true := by decide
    have c' : cutS (fz (.lst (ds.map enc))) (some (8 * (t : Int))) (some (8 * (t : Int) + 20)) = some (oL (((ds.drop (8 * t)).take 20).map enc)) := c
    generalize (ds.drop (8 * t)).take 20 = es at hb c'
    simp -implicitDefEqProofs [qA, envQ, -ev_idx, -ev_lst, e, c', s8, hb]
  match t, ht with
  | 0, _ => exact main 1 (by decide) (by simp -implicitDefEqProofs)
  | 1, _ => exact main 2 (by decide) (by simp -implicitDefEqProofs)
  | 2, _ => exact main 3 (by decide) (by simp -implicitDefEqProofs)
  | 3, _ => exact main 2 (by decide) (by simp -implicitDefEqProofs)
  | 4, _ => exact main 3 (by decide) (by simp -implicitDefEqProofs)
def qNum (ds : List Int) (t m r c : Nat) : Int := ds.getD ((r * 7 + c + t) % 60) 0 / (1 + (r : Int)) % ((m : Int) + 1)
theorem qElt_ok (Φ : Phi) (ds : List Int) (hd : ds.length = 60) (t r c : Nat) (hr : r ≤ 1000) (x0 x4 x5 x6 x7 x8 x9 : Option SV) : ev Φ qElt [x0, some (fz (.lst (ds.map enc))), some (fz (.int t)), some (fz (.int m)), x4, x5, x6, x7, x8, x9, some (fz (enc r)), some (fz (enc c))] = .ok (fz (.int (qNum ds t m r c))) := by
  have s7 : small64 7 = true := by decide
  have lt : (r * 7 + c + t) % 60 < ds.length := by rw [hd]; exact Nat.mod_lt _ (by decide)
  have ix : atI (ds.map (enc : Int → D)) (((r : Int) * 7 + (c : Int) + (t : Int)) % 60) = some (.int (ds.getD ((r * 7 + c + t) % 60) 0)) := by
    have e : ((r : Int) * 7 + (c : Int) + (t : Int)) % 60 = (((r * 7 + c + t) % 60 : Nat) : Int) := by omega
    rw [e, atI_nat]
    simp only [List.getElem?_map, List.getElem?_eq_getElem lt, List.getD, Option.map_some, Option.getD_some]
    rfl
  have d1 : (0 : Int) < 1 + (r : Int) ∧ 1 + (r : Int) < 1073741824 := by omega
  have d2 : (0 : Int) < (m : Int) + 1 := by omega
  have e1 : ev Φ (.bin .mod (.bin .add (.bin .add (.bin .mul (.var 10) (.lit (.int 7))) (.var 11)) (.var 2)) (.lit (.int 60))) [x0, some (fz (.lst (ds.map enc))), some (fz (.int t)), some (fz (.int m)), x4, x5, x6, x7, x8, x9, some (fz (enc r)), some (fz (enc c))] = .ok (fz (.int (((r : Int) * 7 + (c : Int) + (t : Int)) % 60))) := by
    simp -implicitDefEqProofs [enc_nat, s7]
  have e2 : ev Φ (.bi .int [(.idx (.var 1) (.bin .mod (.bin .add (.bin .add (.bin .mul (.var 10) (.lit (.int 7))) (.var 11)) (.var 2)) (.lit (.int 60))))]) [x0, some (fz (.lst (ds.map enc))), some (fz (.int t)), some (fz (.int m)), x4, x5, x6, x7, x8, x9, some (fz (enc r)), some (fz (enc c))] = .ok (fz (.int (ds.getD ((r * 7 + c + t) % 60) 0))) := by
    rw [ev_bi1 (by decide) (by decide), ev_idx, e1]
    generalize ((r : Int) * 7 + (c : Int) + (t : Int)) % 60 = k at ix
    generalize ds.getD ((r * 7 + c + t) % 60) 0 = v at ix
    simp -implicitDefEqProofs [ix]
  unfold qElt qNum
  rw [ev_bin, ev_bin, e2]
  generalize ds.getD ((r * 7 + c + t) % 60) 0 = v
  simp -implicitDefEqProofs [enc_nat, d1, d2]
theorem qBd_ok (Φ : Phi) (hm : m ≤ 3) (ds : List Int) (hd : ds.length = 60) (t : Nat) (x0 x4 x5 x6 x7 x8 x9 : Option SV) : ∃ b, OkB m b ∧ ev Φ qBd [x0, some (fz (.lst (ds.map enc))), some (fz (.int t)), some (fz (.int m)), x4, x5, x6, x7, x8, x9, none, none] = .ok (fz (boardD m b)) := by
  have nn : ∀ r c, 0 ≤ qNum ds t m r c ∧ qNum ds t m r c ≤ m := fun r c => by
    unfold qNum
    have h1 := Int.emod_nonneg (ds.getD ((r * 7 + c + t) % 60) 0 / (1 + (r : Int))) (show (m : Int) + 1 ≠ 0 by omega)
    have h2 := Int.emod_lt_of_pos (ds.getD ((r * 7 + c + t) % 60) 0 / (1 + (r : Int))) (show 0 < (m : Int) + 1 by omega)
    omega
  refine ⟨fun c => (qNum ds t m c.1 c.2).toNat, ⟨by omega, fun c _ => by have := nn c.1 c.2; omega⟩, ?_⟩
  have rm1 : rngS [.int ((m : Int) + 1)] = some ((List.range (m + 1)).map enc) := rngS_nat (k := m + 1) (by omega)
  have rm2 : rngS [.int ((m : Int) + 2)] = some ((List.range (m + 2)).map enc) := rngS_nat (k := m + 2) (by omega)
  have inner : ∀ r, r ≤ 1000 → ev Φ qRow [x0, some (fz (.lst (ds.map enc))), some (fz (.int t)), some (fz (.int m)), x4, x5, x6, x7, x8, x9, some (fz (enc r)), none] = .ok (fz (.tup ((List.range (m + 2)).map fun c => enc (qNum ds t m r c).toNat))) := fun r hr => by
    have q : ev Φ (.comp qElt (.nm 11) (.rng [(.bin .add (.var 3) (.lit (.int 2)))]) [] [11]) [x0, some (fz (.lst (ds.map enc))), some (fz (.int t)), some (fz (.int m)), x4, x5, x6, x7, x8, x9, some (fz (enc r)), none] = .ok (oL ((List.range (m + 2)).map fun c => enc (qNum ds t m r c).toNat)) := by
      refine ev_compm (enc := enc) (xs := List.range (m + 2)) (by simp -implicitDefEqProofs [rm2]) fun c _ => ?_
      have e := qElt_ok (m := m) Φ ds hd t r c hr x0 x4 x5 x6 x7 x8 x9
      refine turnC_ok (ρ := [x0, some (fz (.lst (ds.map enc))), some (fz (.int t)), some (fz (.int m)), x4, x5, x6, x7, x8, x9, some (fz (enc r)), some (fz (enc c))]) (by simp) evt_nil e ?_
      show some (D.int (qNum ds t m r c)) = some (.int ((qNum ds t m r c).toNat : Int))
      rw [Int.toNat_of_nonneg (nn r c).1]
    unfold qRow
    rw [ev_bi1 (by decide) (by decide), q]
    rfl
  have outer : ev Φ (.comp qRow (.nm 10) (.rng [(.bin .add (.var 3) (.lit (.int 1)))]) [] [10]) [x0, some (fz (.lst (ds.map enc))), some (fz (.int t)), some (fz (.int m)), x4, x5, x6, x7, x8, x9, none, none] = .ok (oL ((List.range (m + 1)).map fun r => .tup ((List.range (m + 2)).map fun c => enc (qNum ds t m r c).toNat))) := by
    refine ev_compm (enc := enc) (xs := List.range (m + 1)) (by simp -implicitDefEqProofs [rm1]) fun r hr => ?_
    have hr := List.mem_range.mp hr
    exact turnC_ok (ρ := [x0, some (fz (.lst (ds.map enc))), some (fz (.int t)), some (fz (.int m)), x4, x5, x6, x7, x8, x9, some (fz (enc r)), none]) (by simp) evt_nil (inner r (by omega)) rfl
  unfold qBd
  rw [ev_bi1 (by decide) (by decide), outer]
  rfl
end

/-! papers: the law -/
section
theorem ne_same (Φ : Phi) {e f : E} {ρ : Env} {s t : SV} {d : D} (h1 : ev Φ e ρ = .ok s) (h2 : ev Φ f ρ = .ok t) (v1 : s.view = d) (v2 : t.view = d) (hp : plain 60 d = true) (hi : ∀ i, d ≠ .int i) : ev Φ (.cmp .ne e f) ρ = .ok (fz (.bl false)) := by
  have q : cmpD .ne d d = some false := by
    have : cmpV .ne d d = some false := by
      show (if (plain 60 d && plain 60 d) = true then some (!eqD d d) else none) = _
      rw [hp, eqD_refl 60 d hp]
      rfl
    cases d <;> first | exact this | exact absurd rfl (hi _)
  rw [ev_cmp, h1, R.ok_bind, h2, R.ok_bind]
  show (R.of (cmpD .ne s.view t.view) >>= fun c => R.ok (fz (.bl c))) = _
  rw [v1, v2, q]
  rfl
variable {m : Nat} {b : Cell → Nat}
def outP (m : Nat) (b : Cell → Nat) (p : D) : Option (List Dom) := pathS m b 30 (places m) (goals m) p
structure Fac (Φ : Phi) (m : Nat) (b : Cell → Nat) (X : D) : Prop where
  pl : Φ n__law_places [fz (.int m)] = .ok (oL ((places m).map enc)) []
  all : Φ n__law_all [fz (boardD m b)] = .ok (oL ((good m b).map enc)) []
  first : Φ n_first_laying [fz (boardD m b)] = .ok (fz (toldFirst (good m b) (.tup [.str [110, 111, 110, 101], X]))) []
  look : ∀ p, plain 60 p = true → Φ n__law_path [fz (boardD m b), fz (.lst ((places m).map enc)), fz (.lst []), fz p] = .ok (fz (resD (outP m b p))) []
  fault : ∀ p, plain 60 p = true → Φ n_paper_fault [fz (boardD m b), fz p] = .ok (fz (resD (outP m b p))) []
  px : good m b = [] → plain 60 X = true
  right : good m b = [] → outP m b X = none
  none : ∀ p, outP m b p = none → good m b = []
  bent : ∀ es : List Int, es ≠ [] → ∀ y, (good m b = [] ∧ y = X) ∨ y = .non → ∃ Ds, (∀ d ∈ Ds, plain 60 d = true) ∧ Φ n__law_bent [fz (.lst (es.map enc)), fz (boardD m b), fz y] = .ok (oL Ds) []
def envR (x0 : Option SV) (ds : List Int) (t m : Nat) (b : Cell → Nat) (X : D) (x5 x9 : Option SV) : Env := [x0, some (fz (.lst (ds.map enc))), some (fz (.int t)), some (fz (.int m)), some (fz (boardD m b)), x5, some (fz (.lst ((good m b).map enc))), some (fz (toldFirst (good m b) (.tup [.str [110, 111, 110, 101], X]))), some (fz (.lst ((places m).map enc))), x9, none, none]
theorem qC_ok (Φ : Phi) (X : D) (F : Fac Φ m b X) (x0 : Option SV) (ds : List Int) (t : Nat) (x5 x6 x7 x8 x9 : Option SV) : exs Φ qC (envQ x0 (some (fz (.lst (ds.map enc)))) (some (fz (.int t))) m (fz (boardD m b)) x5 x6 x7 x8 x9) = .ok (.nx (envR x0 ds t m b X x5 x9)) := by
  have h1 := F.pl
  have h2 := F.all
  have h3 := F.first
  simp only [n__law_places, n__law_all, n_first_laying] at h1 h2 h3
  unfold envR
  generalize toldFirst (good m b) (.tup [.str [110, 111, 110, 101], X]) = T at h3 ⊢
  simp -implicitDefEqProofs [qC, envQ, h1, h2, h3]
theorem told_0 (Φ : Phi) (X : D) (x0 : Option SV) (ds : List Int) (t : Nat) (x5 x9 : Option SV) : ev Φ (.cmp .eq (.idx (.var 7) (.lit (.int 0))) (.lit (.str [110, 111, 110, 101]))) (envR x0 ds t m b X x5 x9) = .ok (fz (.bl (good m b).isEmpty)) := by
  unfold envR
  cases good m b with
  | nil => rfl
  | cons v w => rfl
theorem len_0 (Φ : Phi) (X : D) (x0 : Option SV) (ds : List Int) (t : Nat) (x5 x9 : Option SV) : ev Φ (.cmp .eq (.bi .len [(.var 6)]) (.lit (.int 0))) (envR x0 ds t m b X x5 x9) = .ok (fz (.bl (good m b).isEmpty)) := by
  unfold envR
  generalize toldFirst (good m b) (.tup [.str [110, 111, 110, 101], X]) = T
  cases good m b with
  | nil => simp -implicitDefEqProofs
  | cons v w =>
    have : ¬ ((w.length : Int) + 1 = 0) := by omega
    simp -implicitDefEqProofs [this]
theorem len_g (Φ : Phi) (X : D) (x0 : Option SV) (ds : List Int) (t : Nat) (x5 x9 : Option SV) : ev Φ (.cmp .gt (.bi .len [(.var 6)]) (.lit (.int 0))) (envR x0 ds t m b X x5 x9) = .ok (fz (.bl (!(good m b).isEmpty))) := by
  unfold envR
  generalize toldFirst (good m b) (.tup [.str [110, 111, 110, 101], X]) = T
  cases good m b with
  | nil => simp -implicitDefEqProofs
  | cons v w =>
    have : (0 : Int) < (w.length : Int) + 1 := by omega
    simp -implicitDefEqProofs [this]
theorem qD_ok (Φ : Phi) (X : D) (x0 : Option SV) (ds : List Int) (t : Nat) (x5 x9 : Option SV) : exs Φ qD (envR x0 ds t m b X x5 x9) = .ok (.nx (envR x0 ds t m b X x5 x9)) :=
  if_ff (ne_same Φ (told_0 Φ X x0 ds t x5 x9) (len_0 Φ X x0 ds t x5 x9) rfl rfl rfl (fun _ => nofun))
theorem isn_non (Φ : Phi) {e : E} {ρ : Env} {d : D} (h : ev Φ e ρ = .ok (fz d)) (hd : d = .non) : ev Φ (.cmp .isn e (.lit .non)) ρ = .ok (fz (.bl false)) := by
  subst hd
  rw [ev_cmp, h]
  rfl
theorem qE_ok (Φ : Phi) (X : D) (F : Fac Φ m b X) (x0 : Option SV) (ds : List Int) (t : Nat) (x5 x9 : Option SV) : exs Φ qE (envR x0 ds t m b X x5 x9) = .ok (.nx (envR x0 ds t m b X x5 x9)) := by
  refine if_ff ?_
  have l := len_0 (m := m) (b := b) Φ X x0 ds t x5 x9
  by_cases g : good m b = []
  · rw [g] at l
    have h1 := F.look X (F.px g)
    have h2 := F.fault X (F.px g)
    rw [F.right g] at h1 h2
    simp only [n__law_path, n_paper_fault] at h1 h2
    have i : ev Φ (.idx (.var 7) (.lit (.int 1))) (envR x0 ds t m b X x5 x9) = .ok (fz X) := by
      unfold envR
      rw [g]
      rfl
    have c1 : ev Φ (.call n__law_path [(.var 4), (.var 8), (.lst []), (.idx (.var 7) (.lit (.int 1)))]) (envR x0 ds t m b X x5 x9) = .ok (fz (resD none)) := by
      rw [ev_call, evs_cons, evs_cons, evs_cons, evs_cons, i]
      unfold envR
      simp -implicitDefEqProofs [h1]
    have c2 : ev Φ (.call n_paper_fault [(.var 4), (.idx (.var 7) (.lit (.int 1)))]) (envR x0 ds t m b X x5 x9) = .ok (fz (resD none)) := by
      rw [ev_call, evs_cons, evs_cons, i]
      unfold envR
      simp -implicitDefEqProofs [h2]
    exact and_bl l (or_bl (isn_non Φ c1 rfl) (isn_non Φ c2 rfl))
  · have e : (good m b).isEmpty = false := by
      cases c : good m b with
      | nil => exact absurd c g
      | cons => rfl
    rw [e] at l
    rw [ev_and', l]
    rfl
theorem resD_plain (o : Option (List Dom)) : plain 60 (resD o) = true := by
  cases o with
  | none => rfl
  | some w => exact plE20 (by decide) w
theorem qFz_ok (Φ : Phi) (X : D) (F : Fac Φ m b X) (x0 : Option SV) (ds : List Int) (t : Nat) (p : D) (hp : plain 60 p = true) (x9 : Option SV) : ∃ y, exs Φ qFz (envR x0 ds t m b X (some (fz p)) x9) = .ok (.nx (envR x0 ds t m b X (some (fz p)) y)) := by
  have h1 := F.look p hp
  have h2 := F.fault p hp
  simp only [n__law_path, n_paper_fault] at h1 h2
  refine ⟨some (fz (resD (outP m b p))), ?_⟩
  have c1 : exs Φ [.asg (.nm 9) (.call n__law_path [(.var 4), (.var 8), (.lst []), (.var 5)]), .frz [9]] (envR x0 ds t m b X (some (fz p)) x9) = .ok (.nx (envR x0 ds t m b X (some (fz p)) (some (fz (resD (outP m b p)))))) := by
    unfold envR
    generalize toldFirst (good m b) (.tup [.str [110, 111, 110, 101], X]) = T
    simp -implicitDefEqProofs [h1]
  have c2 : ev Φ (.call n_paper_fault [(.var 4), (.var 5)]) (envR x0 ds t m b X (some (fz p)) (some (fz (resD (outP m b p))))) = .ok (fz (resD (outP m b p))) := by
    unfold envR
    generalize toldFirst (good m b) (.tup [.str [110, 111, 110, 101], X]) = T
    simp -implicitDefEqProofs [h2]
  have c3 : ev Φ (.var 9) (envR x0 ds t m b X (some (fz p)) (some (fz (resD (outP m b p))))) = .ok (fz (resD (outP m b p))) := by rw [ev_var]; rfl
  have n1 := ne_same Φ c2 c3 rfl rfl (resD_plain _) (fun i => by cases outP m b p <;> nofun)
  have n2 : ev Φ (.and (.cmp .is_ (.var 9) (.lit (.non))) (.cmp .gt (.bi .len [(.var 6)]) (.lit (.int 0)))) (envR x0 ds t m b X (some (fz p)) (some (fz (resD (outP m b p))))) = .ok (fz (.bl false)) := by
    have g := len_g (m := m) (b := b) Φ X x0 ds t (some (fz p)) (some (fz (resD (outP m b p))))
    cases c : outP m b p with
    | none =>
      have e := F.none p c
      rw [c] at g c3
      have i : ev Φ (.cmp .is_ (.var 9) (.lit (.non))) (envR x0 ds t m b X (some (fz p)) (some (fz (resD none)))) = .ok (fz (.bl true)) := by
        rw [ev_cmp, c3]
        rfl
      have q := and_bl i g
      rw [e] at q
      exact q
    | some w =>
      rw [c] at c3
      have i : ev Φ (.cmp .is_ (.var 9) (.lit (.non))) (envR x0 ds t m b X (some (fz p)) (some (fz (resD (some w))))) = .ok (fz (.bl false)) := by
        rw [ev_cmp, c3]
        rfl
      rw [ev_and', i]
      rfl
  rw [show qFz = [.asg (.nm 9) (.call n__law_path [(.var 4), (.var 8), (.lst []), (.var 5)]), .frz [9]] ++ [.if_ (.or (.cmp .ne (.call n_paper_fault [(.var 4), (.var 5)]) (.var 9)) (.and (.cmp .is_ (.var 9) (.lit (.non))) (.cmp .gt (.bi .len [(.var 6)]) (.lit (.int 0))))) [.ret (.lit (.bl false))] []] from rfl, exs_append, c1, RS.seq_nx]
  exact if_ff (or_bl n1 n2)
theorem qF_ok (Φ : Phi) (X : D) (F : Fac Φ m b X) (x0 : Option SV) (ds : List Int) (hd : ds.length = 60) (t : Nat) (ht : t < 5) (x5 x9 : Option SV) : ∃ y z, exs Φ qF (envR x0 ds t m b X x5 x9) = .ok (.nx (envR x0 ds t m b X y z)) := by
  have ne : ds.drop (50 + t) ≠ [] := fun e => by
    have := congrArg List.length e
    simp at this
    omega
  have cd : cutS (fz (.lst (ds.map enc))) (some (50 + (t : Int))) none = some (oL ((ds.drop (50 + t)).map enc)) := by
    show some (oL (cut (ds.map enc) (some (50 + (t : Int))) none)) = _
    congr 2
    unfold cut sIx
    have h1 : ¬ (50 + (t : Int) < 0) := by omega
    have h2 : min (50 + (t : Int)).toNat (ds.map (enc : Int → D)).length = 50 + t := by simp; omega
    simp only [h1, if_false, h2]
    rw [List.map_drop]
    exact List.take_of_length_le (by rw [List.length_drop]; exact Nat.le_refl _)
  have arg : ∃ y, ((good m b = [] ∧ y = X) ∨ y = .non) ∧ ev Φ (.ite (.cmp .eq (.bi .len [(.var 6)]) (.lit (.int 0))) (.idx (.var 7) (.lit (.int 1))) (.lit (.non))) (envR x0 ds t m b X x5 x9) = .ok (fz y) := by
    have l := len_0 (m := m) (b := b) Φ X x0 ds t x5 x9
    by_cases g : good m b = []
    · refine ⟨X, .inl ⟨g, rfl⟩, ?_⟩
      rw [g] at l
      rw [ev_ite, l, R.ok_bind, boolS_bl, R.ok_bind, List.isEmpty_nil, if_pos rfl]
      unfold envR
      rw [g]
      rfl
    · refine ⟨.non, .inr rfl, ?_⟩
      have e : (good m b).isEmpty = false := by
        cases c : good m b with
        | nil => exact absurd c g
        | cons => rfl
      rw [e] at l
      rw [ev_ite, l]
      rfl
  obtain ⟨y, hy, ea⟩ := arg
  obtain ⟨Ds, hD, eb⟩ := F.bent (ds.drop (50 + t)) ne y hy
  simp only [n__law_bent] at eb
  have it : evif Φ (.seq (.call n__law_bent [(.slc (.var 1) (some (.bin .add (.lit (.int 50)) (.var 2))) none), (.var 4), (.ite (.cmp .eq (.bi .len [(.var 6)]) (.lit (.int 0))) (.idx (.var 7) (.lit (.int 1))) (.lit (.non)))])) (envR x0 ds t m b X x5 x9) = .ok Ds := by
    rw [evif_seq, ev_call, evs_cons, evs_cons, evs_cons, ea]
    generalize ds.drop (50 + t) = es at cd eb
    unfold envR
    generalize toldFirst (good m b) (.tup [.str [110, 111, 110, 101], X]) = T
    simp -implicitDefEqProofs [cd, eb]
  let P : List D → Env → Prop := fun _ ρ => ∃ y z, ρ = envR x0 ds t m b X y z
  obtain ⟨ρ, e, y', z, rfl⟩ := loopF_run (f := fun x ρ1 => exs Φ qFz (ρ1.set 5 (some (fz x)))) (g := (id : D → D)) (full := Ds) P (ρ := envR x0 ds t m b X x5 x9) ⟨_, _, rfl⟩ (by
    rintro pre p post ρ hf ⟨y, z, rfl⟩
    obtain ⟨z', q⟩ := qFz_ok Φ X F x0 ds t p (hD p (by rw [hf]; simp)) z
    exact ⟨_, q, _, _, rfl⟩)
  refine ⟨y', z, ?_⟩
  unfold qF
  rw [exs_cons, ex_for, it, RS.of_ok]
  simp -implicitDefEqProofs only [bindTg_nm]
  rw [List.map_id] at e
  rw [e, RS.seq_nx, exs_nil]
end

/-! papers: the whole law -/
section
variable {m : Nat} {b : Cell → Nat}
theorem fault_step (Φ : Phi) (p : D) {r : D} (hc : Φ n_check_board [fz (boardD m b)] = .ok (fz .non) []) (hi : makeS (Φ n_Laying_init [.ins c_Laying [] [], fz (boardD m b)]) = .ok (mkD m b)) (hp : Φ n__path [fz (layD m b), fz (.lst ((places m).map enc)), fz (.lst ((goals m).map enc)), fz p] = .ok (fz r) []) : runFn Φ i_paper_fault [fz (boardD m b), fz p] = .ok (fz r) [] := by
  simp only [n_check_board, n_Laying_init, n__path, c_Laying, layD, mkD, fl_places, fl_goals, fl__goals, fl_having] at hc hi hp
  simp -implicitDefEqProofs [i_paper_fault, b_paper_fault, hc, hi, hp]
def X55 (m : Nat) (b : Cell → Nat) : D := paperD m b 55 (places m) (goals m)
theorem three (B : OkB m b) : ∀ d ∈ places m, (gs b d).Nodup ∧ (gs b d).length = 3 := fun d hd => by
  have := dom_ne B.le d hd
  refine ⟨?_, rfl⟩
  simp [gs, this]
theorem X55_plain (B : OkB m b) : plain 40 (X55 m b) = true := by
  have hl := (goals_le m B.le).1
  exact paper_plain B 15 55 40 (places m) (goals m) (by omega) (by omega) (nodup_goals m B.le) (fun _ h => h) (invB B) (three B)
theorem goals_ne (m : Nat) : goals m ≠ [] := fun e => by
  have : ((Tag.cell, ((0, 0) : Cell)) : Goal) ∈ goals m := mem_goals.mpr (.inl ⟨rfl, mem_cells.mpr ⟨Nat.succ_pos m, Nat.succ_pos (m + 1)⟩⟩)
  rw [e] at this
  cases this
theorem X55_form (h4 : m ≤ 4) : ∃ x0 u v inner, X55 m b = .tup [x0, .tup [u, v], .tup inner] ∧ inner.length ≤ 1000 := by
  obtain ⟨g, hg, e⟩ := scarce_some m b (places m) (goals m) (goals_ne m)
  unfold X55 paperD
  rw [e]
  refine ⟨_, .int g.2.1, .int g.2.2, _, rfl, ?_⟩
  rw [List.length_map]
  have h1 : (rowsOf m b (places m) g).length ≤ (places m).length := Nat.le_trans (List.length_filter_le _ _) (List.length_filter_le _ _)
  have := (goals_le m h4).2.2.2
  omega
theorem no_good (B : OkB m b) {p : D} (h : outP m b p = none) : good m b = [] := by
  have n := pathS_none m b 30 _ _ p (fun _ h => h) h
  cases c : good m b with
  | nil => rfl
  | cons v t => exact absurd ⟨v, (good_cov B (show v ∈ good m b by rw [c]; simp)).1⟩ n
theorem X55_right (B : OkB m b) (h : good m b = []) : outP m b (X55 m b) = none := by
  have hl := (goals_le m B.le).1
  have e := good_nil B h
  exact paper_right m b B.le 15 55 30 (places m) (goals m) (by omega) (by omega) (by omega) (nodup_goals m B.le) (fun _ h => h) (three B) (invB B) (by rw [covers_fuel B 55 (by decide), e])
theorem fac (hm : m ≤ 3) (B : OkB m b) : Fac (M prog 59) m b (X55 m b) where
  pl := law_places_M 58 m B.le
  all := by
    rw [M_succ (h := rfl)]
    exact law_all_run (tilOk m hm) _ (fun d hd => law_pair_M 57 m b d hd) (tilings_M (tilOk m hm) 57) (law_pairs_M 57 m B.le)
  first := first_M B (tilOk m hm) 55 (by decide) (by decide)
  look p hp := wpath_M m b B.le 26 30 (places m) [] (goals m) p hp (by decide) (List.Sublist.refl _) (fun g => by simp) (by decide)
  fault p hp := by
    rw [M_succ (h := rfl)]
    exact fault_step _ p (check_board_M 55 m B.le b B.bd) (init_M 56 m B.le b) (path_M m b B.le 26 30 (places m) (goals m) p hp (by decide) (fun _ h => h) (fun _ h => h))
  px _ := plain_le (by decide) (X55_plain B)
  right h := X55_right B h
  none p h := no_good B h
  bent es he y hy := by
    rcases hy with ⟨_, rfl⟩ | rfl
    · obtain ⟨x0, u, v, inner, e, hz⟩ := X55_form (b := b) B.le
      have hp := X55_plain B
      rw [e] at hp ⊢
      obtain ⟨Ds, h1, h2⟩ := bent_some m b (M prog 58) hm es he x0 u v inner hp hz
      exact ⟨Ds, h1, by rw [M_succ (h := rfl)]; exact h2⟩
    · exact ⟨base1 m, plains_mem (base1_plain m), by rw [M_succ (h := rfl)]; exact bent_none m b (M prog 58) hm _⟩
theorem qTurn_ok (Φ : Phi) (ds : List Int) (hd : ds.length = 60) (t : Nat) (ht : t < 5) (hB : ∀ m : Nat, m ≤ 3 → ∀ es : List Int, es.length = 20 → ∃ b, OkB m b ∧ Φ n__law_board [fz (.lst (es.map enc)), fz (.int m)] = .ok (fz (boardD m b)) []) (hF : ∀ m : Nat, m ≤ 3 → ∀ b, OkB m b → ∃ X, Fac Φ m b X) (x0 x3 x4 x5 x6 x7 x8 x9 : Option SV) :
    ∃ y3 y4 y5 y6 y7 y8 y9, exs Φ qTurn [x0, some (fz (.lst (ds.map enc))), some (fz (.int t)), x3, x4, x5, x6, x7, x8, x9, none, none] = .ok (.nx [x0, some (fz (.lst (ds.map enc))), some (fz (.int t)), y3, y4, y5, y6, y7, y8, y9, none, none]) := by
  obtain ⟨m, b0, hm, B0, qa⟩ := qA_ok Φ ds hd t ht hB x0 x3 x4 x5 x6 x7 x8 x9
  have qb : ∃ b, OkB m b ∧ exs Φ [qB] (envQ x0 (some (fz (.lst (ds.map enc)))) (some (fz (.int t))) m (fz (boardD m b0)) x5 x6 x7 x8 x9) = .ok (.nx (envQ x0 (some (fz (.lst (ds.map enc)))) (some (fz (.int t))) m (fz (boardD m b)) x5 x6 x7 x8 x9)) := by
    by_cases c : 2 < t
    · obtain ⟨b, B, e⟩ := qBd_ok (m := m) Φ hm ds hd t x0 (some (fz (boardD m b0))) x5 x6 x7 x8 x9
      refine ⟨b, B, ?_⟩
      have c' : (2 : Int) < t := by omega
      have e0 : ev Φ (.cmp .gt (.var 2) (.lit (.int 2))) (envQ x0 (some (fz (.lst (ds.map enc)))) (some (fz (.int t))) m (fz (boardD m b0)) x5 x6 x7 x8 x9) = .ok (fz (.bl true)) := by
        simp -implicitDefEqProofs [envQ, c']
      unfold qB
      rw [exs_cons, ex_if, e0, R.ok_bind, boolS_bl, RS.of_ok, if_pos rfl, exs_cons, ex_asg]
      show RS.seq (RS.seq (RS.of _ (ev Φ qBd [x0, some (fz (.lst (ds.map enc))), some (fz (.int t)), some (fz (.int m)), some (fz (boardD m b0)), x5, x6, x7, x8, x9, none, none]) _) _) _ = _
      rw [e]
      simp -implicitDefEqProofs [envQ]
    · refine ⟨b0, B0, if_ff ?_⟩
      have c' : ¬ (2 : Int) < t := by omega
      simp -implicitDefEqProofs [envQ, c']
  obtain ⟨b, B, qb⟩ := qb
  obtain ⟨X, F⟩ := hF m hm b B
  obtain ⟨y5, y9, qf⟩ := qF_ok Φ X F x0 ds hd t ht x5 x9
  unfold qTurn
  rw [exs_append, qa, RS.seq_nx, exs_append, qb, RS.seq_nx, exs_append, qC_ok Φ X F, RS.seq_nx, exs_append, qD_ok, RS.seq_nx, exs_append, qE_ok Φ X F, RS.seq_nx, qf]
  exact ⟨_, _, _, _, _, _, _, rfl⟩
theorem end_1 (n : Nat) : M prog (n + 20) n_paper_fault [fz (.tup [.tup [.int 0, .int 0, .int 0], .tup [.int 0, .int 0, .int 0]]), fz (.tup [.str [112, 97, 105, 114], .tup [.int 0, .int 1], .tup []])] = .ok (fz .non) [] := by
  kernel_rfl
theorem end_2 (n : Nat) : M prog (n + 20) n_paper_fault [fz (.tup [.tup [.int 0, .int 0, .int 0], .tup [.int 0, .int 0, .int 0]]), fz (.tup [.str [112, 97, 105, 114], .tup [.int 0, .int 0], .tup []])] = .ok (fz (.tup [])) [] := by
  kernel_rfl
theorem law_run (Φ : Phi) (ns : List Int) (hdr : ∃ ds : List Int, ds.length = 60 ∧ Φ n__law_draws [fz (.scr ns), fz (.int 60)] = .ok (oL (ds.map enc)) []) (hB : ∀ m : Nat, m ≤ 3 → ∀ es : List Int, es.length = 20 → ∃ b, OkB m b ∧ Φ n__law_board [fz (.lst (es.map enc)), fz (.int m)] = .ok (fz (boardD m b)) []) (hF : ∀ m : Nat, m ≤ 3 → ∀ b, OkB m b → ∃ X, Fac Φ m b X)
    (h1 : Φ n_paper_fault [fz (.tup [.tup [.int 0, .int 0, .int 0], .tup [.int 0, .int 0, .int 0]]), fz (.tup [.str [112, 97, 105, 114], .tup [.int 0, .int 1], .tup []])] = .ok (fz .non) []) (h2 : Φ n_paper_fault [fz (.tup [.tup [.int 0, .int 0, .int 0], .tup [.int 0, .int 0, .int 0]]), fz (.tup [.str [112, 97, 105, 114], .tup [.int 0, .int 0], .tup []])] = .ok (fz (.tup [])) []) : runFn Φ i_law [fz (.scr ns)] = .ok (fz (.bl true)) [] := by
  obtain ⟨ds, hd, hdr⟩ := hdr
  let P : List Nat → Env → Prop := fun pre ρ => ∃ y x3 x4 x5 x6 x7 x8 x9, ρ = [some (fz (.scr ns)), some (fz (.lst (ds.map enc))), y, x3, x4, x5, x6, x7, x8, x9, none, none]
  obtain ⟨ρ, e, y, x3, x4, x5, x6, x7, x8, x9, rfl⟩ := loopF_run (f := fun x ρ1 => exs Φ qTurn (ρ1.set 2 (some (fz x)))) (g := (enc : Nat → D)) (full := List.range 5) P (ρ := [some (fz (.scr ns)), some (fz (.lst (ds.map enc))), none, none, none, none, none, none, none, none, none, none]) ⟨_, _, _, _, _, _, _, _, rfl⟩ (by
    rintro pre t post ρ hf ⟨y, x3, x4, x5, x6, x7, x8, x9, rfl⟩
    have ht : t < 5 := by
      have : t ∈ List.range 5 := by rw [hf]; simp
      simpa using this
    obtain ⟨z3, z4, z5, z6, z7, z8, z9, q⟩ := qTurn_ok Φ ds hd t ht hB hF (some (fz (.scr ns))) x3 x4 x5 x6 x7 x8 x9
    exact ⟨_, q, _, z3, z4, z5, z6, z7, z8, z9, rfl⟩)
  have it : evif Φ (.rng [(.lit (.int 5))]) [some (fz (.scr ns)), some (fz (.lst (ds.map enc))), none, none, none, none, none, none, none, none, none, none] = .ok ((List.range 5).map enc) := rfl
  simp only [n__law_draws, n_paper_fault] at hdr h1 h2
  have s1 : exs Φ [.asg (.nm 1) (.call n__law_draws [(.var 0), (.lit (.int 60))]), .frz [1]] [some (fz (.scr ns)), none, none, none, none, none, none, none, none, none, none, none] = .ok (.nx [some (fz (.scr ns)), some (fz (.lst (ds.map enc))), none, none, none, none, none, none, none, none, none, none]) := by
    simp -implicitDefEqProofs [hdr]
  refine runFn_rt (ρ0 := [some (fz (.scr ns)), none, none, none, none, none, none, none, none, none, none, none]) (ss := []) rfl rfl rfl (ρ := [some (fz (.scr ns)), some (fz (.lst (ds.map enc))), y, x3, x4, x5, x6, x7, x8, x9, none, none]) ?_ rfl
  show exs Φ b_law _ = _
  rw [law_body, show ([.asg (.nm 1) (.call n__law_draws [(.var 0), (.lit (.int 60))]), .frz [1], .for_ (.nm 2) (.rng [(.lit (.int 5))]) qTurn, qEnd] : List S) = [.asg (.nm 1) (.call n__law_draws [(.var 0), (.lit (.int 60))]), .frz [1]] ++ [.for_ (.nm 2) (.rng [(.lit (.int 5))]) qTurn, qEnd] from rfl, exs_append, s1, RS.seq_nx, exs_cons, ex_for, it, RS.of_ok]
  simp -implicitDefEqProofs only [bindTg_nm]
  rw [e, RS.seq_nx]
  have c1 : ∀ d : D, cmpS .is_ (fz .non) (fz .non) = some true := fun _ => rfl
  have c2 : cmpS .eq (fz (.tup [])) (fz (.tup [])) = some true := by kernel_rfl
  simp -implicitDefEqProofs [qEnd, h1, h2, -u_cmpS, c1 .non, c2]
theorem hev (ns : List Int) (h : ns.length ≤ 63) : M prog 60 n_law [fz (.scr ns)] = .ok (fz (.bl true)) [] := by
  rw [M_succ (h := rfl)]
  refine law_run _ ns ?_ (fun m hm es he => board_M (tilOk m hm) 57 es he) (fun m hm b B => ⟨_, fac hm B⟩) (end_1 39) (end_2 39)
  obtain ⟨ds, h1, h2⟩ := draws_run (M prog 58) ns h
  exact ⟨ds, h1, by rw [M_succ (h := rfl)]; exact h2⟩
end

end Pd.k66
end
theorem PySem.Challenge.cw_coverwright_k66_whole_domino_papers_holds : PySem.Challenge.rw_coverwright_k66_whole_domino_papers.Holds :=
  Pd.k66.holds_of fun ns h => by
    rw [Pd.k66.prog_eq]
    exact Pd.k66.hev ns h
