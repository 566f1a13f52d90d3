import PyProof.Rows.All
import HandS.List
import KE.DataEq
import HandS.ForMost
import HandS.Wide
import HandS.Walk
import HandS.IsInst
import HandS.SortInts
import HandS.Conv
import HandS.Style
import HandS.Zip
import HandS.TupMul
import HandS.Lambda
import HandS.HeadHook1
import HandS.TupAny
import KE.KSortedM
import PyProof.WalksMore
import PyProof.SumWalkG
import HandS.RaiseMore
import HandS.Iter
import HandS.Small
import HandS.WideMore
import HandS.Comp
import HandS.Defaults
import HandS.ExcOwn
import KE.KStateDown
import HandS.Ends
import HandS.Head0
import HandS.Head1
import HandS.Head2
import HandS.HeadEnd
import HandS.HeadHook2
import HandS.EndTab
import KE.KExcSuper
import HandS.ExcInit
import HandS.ExcField
import HandS.ExcIs
import KE.KIsNot
import HandS.Words
import PyProof.ReprLen
import PySem.Challenge.RW_orderedahead_k69_whole_sharp_stretches
section
set_option linter.all false
set_option autoImplicit false
/-! DnA: data, the small language of the laws' programs, what it answers (no heap). -/
namespace Dn
open PySem

/-- what a Python value is, without its heap -/
inductive D where
  | non | bl (b : Bool) | int (i : Int) | str (x : Str)
  | tup (xs : List D) | lst (xs : List D)
  | fz (xs : List D)
  | dct (ks : List Int) (vs : List D)
  /-- an exception of an own class, its value -/
  | exc (c : Str) (d : D)
  /-- a lambda in its maker's frame; one handed on, with what it captured -/
  | yng (j : Nat) (caps : List Nat) | clo (j : Nat) (cs : List D)
  deriving Inhabited
/-- a lambda's text: captured names, their slots in the maker's frame -/
structure Lam where
  qual : Str
  params : Arguments
  body : Expr
  scope : Scope
  names : List Str
  caps : List Nat

mutual
def toP : D → Option PyData
  | .non => some .none
  | .bl b => some (.bool b)
  | .int i => some (.int i)
  | .str x => some (.str x)
  | .tup xs => (toPs xs).map .tuple
  | .lst xs => (toPs xs).map .list
  | .fz xs => (toPs xs).map .list
  | _ => none
def toPs : List D → Option (List PyData)
  | [] => some []
  | x :: r => (toP x).bind fun p => (toPs r).map fun ps => p :: ps
end

/-- a slot: empty, shared, owned, lent -/
inductive Sl where
  | no | sh (d : D) | ow (d : D) | bo (d : D)
  deriving Inhabited
abbrev Env := List Sl
def Sl.get? : Sl → Option D
  | .no => none
  | .sh d => some d
  | .ow d => some d
  | .bo d => some d
def Sl.isOwn : Sl → Bool
  | .ow _ => true
  | .bo _ => true
  | _ => false

inductive Res (α : Type) where
  | ok (a : α) (Γ : Env)
  | no
def Res.bind {α β : Type} : Res α → (α → Env → Res β) → Res β
  | .ok a Γ, f => f a Γ
  | .no, _ => .no

inductive Bop where | add | sub | mul | fdiv | mod | pow
inductive Cop where | eq | ne | lt | le | gt | ge | is_ | isnot | in_ | notin
inductive Ty where | int | bool | tuple | str | list | dict
inductive B1 where | len | abs | int | tuple | list | sum | max | min | all | any | sorted | repr | isi (t : Ty)
inductive B2 where | max | min

mutual
/-- targets -/
inductive Tg where
  | nm (i : Nat)
  | tp (l : Tgs)
inductive Tgs where
  | nil
  | cons (g : Tg) (r : Tgs)
end

def Tgs.len : Tgs → Nat
  | .nil => 0
  | .cons _ r => r.len + 1
mutual
inductive E where
  | cst (d : D)
  | var (i : Nat)
  | bin (o : Bop) (a b : P)
  | neg (a : P)
  | cmp (o : Cop) (a b : P)
  | chn (o p : Cop) (a b c : P)
  | andE (a : P) (b : E)
  | orE (a : P) (b : E)
  | notE (a : P)
  | ite (t : T) (a b : E)
  | tup (es : Es)
  | lst (es : Es)
  | idx (a i : P)
  | slc (a : P) (lo hi : O)
  | bl1 (f : B1) (a : P)
  | bl2 (f : B2) (a b : P)
  | cal (j : Nat) (as : As)
  | cmp1 (elt : E) (tg : Tg) (it : I) (c : Ts) (own : List Nat) (n : Nat)
  | popA (i : Nat) (k : P)
  | pop0 (i : Nat)
  | newD
  | dget (a k : P) (d : E)
  | lam (j : Nat) (caps : List Nat)
  | caly (j : Nat) (as : As) (js : List Nat)
  | exv (a : P) (cs : List Str)
  | isx (a : P) (c : Str) (cs : List Str)
  | clv (i : Nat) (as : As)
  | lrg (b : Bool) (it : I)
  | calT (j : Nat) (a : E)
inductive P where
  | pek (i : Nat)
  | e (a : E)
inductive O where
  | no
  | so (a : P)
inductive T where
  | val (a : P)
  | and_ (a b : T)
  | or_ (a b : T)
  | not_ (a : T)
inductive Ts where
  | nil
  | one (t : T)
inductive Es where
  | nil
  | cons (a : E) (r : Es)
inductive As where
  | nil
  | val (a : E) (r : As)
  | ref (i : Nat) (r : As)
  | tmp (a : E) (r : As)
inductive I where
  | seq (a : E)
  | rng1 (a : P)
  | rng2 (a b : P)
  | rng3 (a b c : P)
  | enm (a : E)
  | zip2 (a b : E)
end

def isRng : I → Bool
  | .rng1 _ => true
  | .rng2 _ _ => true
  | _ => false
/-- a call that may raise: of a def, of a slot's closure -/
inductive Xc where
  | cal (j : Nat) (as : As)
  | clv (i : Nat) (as : As)

mutual
inductive S where
  | asg (g : Tg) (a : E)
  | par (l : List Nat) (es : Es)
  | set (i : Nat) (k : P) (a : E)
  | aug (i : Nat) (o : Bop) (a : P)
  | expr (a : E)
  | app (i : Nat) (a : E)
  | ext (i : Nat) (a : P)
  | ret (a : E)
  | retv (i : Nat)
  | retn
  | ite (t : T) (a b : Ss)
  | for_ (g : Tg) (it : I) (b : Ss)
  | whl (t : T) (b : Ss)
  | pass | brk | cnt | bad
  | xexp (x : Xc) | xasg (i : Nat) (x : Xc) | xret (x : Xc)
  | rais (c : Str) (a : E)
  | tryx (i : Nat) (x : Xc) (e j : Nat) (cs : List Str)
inductive Ss where
  | nil
  | cons (a : S) (r : Ss)
end

/-! ### operations on data -/
def okLen (n : Nat) : Bool := Nat.ble n 16000000
def fitMul (i j : Int) : Bool := Nat.blt (i.natAbs.log2 + j.natAbs.log2) 1000000
def divD (i j : Int) : Option Int :=
  if 0 < j ∧ j.natAbs.log2 < 9000 then some (i / j)
  else if j ≠ 0 ∧ j.natAbs < 1073741824 then some (i.fdiv j) else none
def modD (i j : Int) : Option Int := if 0 < j then some (i % j) else if j ≠ 0 then some (i.fmod j) else none
def powD (i j : Int) : Option Int := if 0 ≤ j ∧ (i.natAbs.log2 + 1) * j.toNat ≤ 134217728 then some (i ^ j.toNat) else none

def bopD : Bop → D → D → Option D
  | .add, .int i, .int j => some (.int (i + j))
  | .add, .tup xs, .tup ys => if okLen (xs.length + ys.length) then some (.tup (xs ++ ys)) else none
  | .add, .lst xs, .lst ys => if okLen (xs.length + ys.length) then some (.lst (xs ++ ys)) else none
  | .sub, .int i, .int j => some (.int (i - j))
  | .mul, .int i, .int j => if fitMul i j then some (.int (i * j)) else none
  | .mul, .tup xs, .int k => if !xs.isEmpty && Nat.ble xs.length 1000 && (decide (2 ≤ k) && decide (k ≤ 1000)) then some (.tup (List.replicate k.toNat xs).flatten) else none
  | .mul, .lst xs, .int k => if -(2 ^ 63) ≤ k ∧ k < 2 ^ 63 ∧ okLen (xs.length * k.toNat) then some (.lst (List.replicate k.toNat xs).flatten) else none
  | .fdiv, .int i, .int j => (divD i j).map .int
  | .mod, .int i, .int j => (modD i j).map .int
  | .pow, .int i, .int j => (powD i j).map .int
  | _, _, _ => none

/-- in place, of ints -/
def augD : Bop → Int → Int → Option Int
  | .add, i, j => some (i + j)
  | .sub, i, j => some (i - j)
  | .mul, i, j => if fitMul i j then some (i * j) else none
  | .fdiv, i, j => if 0 < j ∧ j.natAbs.log2 < 9000 then some (i / j) else none
  | _, _, _ => none

def eqD (d e : D) : Option Bool := match toP d, toP e with
  | some p, some q => if PyData.plain p && PyData.plain q && Nat.ble p.depth 60 then some (PyData.eqv p q) else none
  | _, _ => none
def isNone : D → Bool
  | .non => true
  | _ => false
def inD (x : D) (xs : List D) : Option Bool := match toP x, toPs xs with
  | some p, some ps => if PyData.plain p && PyData.plainAll ps && Nat.ble p.depth 60 then some (ps.any fun y => PyData.eqv y p) else none
  | _, _ => none

def copD : Cop → D → D → Option Bool
  | .eq, a, b => eqD a b
  | .ne, a, b => (eqD a b).map (!·)
  | .lt, .int i, .int j => some (decide (i < j))
  | .le, .int i, .int j => some (decide (i ≤ j))
  | .gt, .int i, .int j => some (decide (j < i))
  | .ge, .int i, .int j => some (decide (j ≤ i))
  | .is_, a, .non => some (isNone a)
  | .isnot, a, .non => some (!isNone a)
  | .is_, .bl a, .bl b => some (decide (a = b))
  | .isnot, .bl a, .bl b => some (!decide (a = b))
  | .in_, a, .tup xs => inD a xs
  | .in_, a, .lst xs => inD a xs
  | .notin, a, .tup xs => (inD a xs).map (!·)
  | .notin, a, .lst xs => (inD a xs).map (!·)
  | _, _, _ => none

def truD : D → Option Bool
  | .non => some false
  | .bl b => some b
  | .int i => some (i != 0)
  | .lst xs => some (!xs.isEmpty)
  | .tup xs => some (!xs.isEmpty)
  | _ => none

def intL : List D → Option (List Int)
  | [] => some []
  | .int i :: r => (intL r).map fun l => i :: l
  | _ :: _ => none
def bolL : List D → Option (List Bool)
  | [] => some []
  | .bl i :: r => (bolL r).map fun l => i :: l
  | _ :: _ => none
def ins (i : Int) : List Int → List Int
  | [] => [i]
  | j :: r => if i ≤ j then i :: j :: r else j :: ins i r
def srt : List Int → List Int
  | [] => []
  | i :: r => ins i (srt r)
def maxL : Int → List Int → Int
  | m, [] => m
  | m, i :: r => maxL (if i > m then i else m) r
def minL : Int → List Int → Int
  | m, [] => m
  | m, i :: r => minL (if i < m then i else m) r

def dlook (ks : List Int) (vs : List D) (k : Int) : Option D := match ks, vs with
  | k' :: ks, v :: vs => if k' = k then some v else dlook ks vs k
  | _, _ => none
def idxD : D → D → Option D
  | .tup xs, .int i => L2.atI xs i
  | .lst xs, .int i => L2.atI xs i
  | .fz xs, .int i => L2.atI xs i
  | .dct ks vs, .int i => dlook ks vs i
  | _, _ => none
def cutD (xs : List D) (lo hi : Option Int) : List D := (xs.drop (HT.sIx xs.length 0 lo)).take (HT.sIx xs.length xs.length hi - HT.sIx xs.length 0 lo)
def slcD : D → Option Int → Option Int → Option D
  | .tup xs, lo, hi => some (.tup (cutD xs lo hi))
  | .lst xs, lo, hi => some (.lst (cutD xs lo hi))
  | .fz xs, lo, hi => some (.lst (cutD xs lo hi))
  | _, _, _ => none

def isiD : Ty → D → Bool
  | .int, .int _ => true
  | .int, .bl _ => true
  | .bool, .bl _ => true
  | .tuple, .tup _ => true
  | .str, .str _ => true
  | .list, .lst _ => true
  | .list, .fz _ => true
  | .dict, .dct _ _ => true
  | _, _ => false

def isX : D → Bool
  | .exc _ _ => true
  | .yng _ _ => true
  | .clo _ _ => true
  | _ => false
def b1D : B1 → D → Option D
  | .len, .tup xs => some (.int xs.length)
  | .len, .lst xs => some (.int xs.length)
  | .len, .fz xs => some (.int xs.length)
  | .abs, .int i => some (.int (if i < 0 then -i else i))
  | .int, .int i => some (.int i)
  | .int, .bl b => some (.int (if b then 1 else 0))
  | .tuple, .lst xs => some (.tup xs)
  | .tuple, .tup xs => some (.tup xs)
  | .list, .lst xs => some (.lst xs)
  | .list, .tup xs => some (.lst xs)
  | .sum, .lst xs => (intL xs).map fun l => .int l.sum
  | .sum, .fz xs => (intL xs).map fun l => .int l.sum
  | .sum, .tup xs => (intL xs).map fun l => .int l.sum
  | .max, .lst xs => match intL xs with
    | some (i :: r) => some (.int (maxL i r))
    | _ => none
  | .min, .lst xs => match intL xs with
    | some (i :: r) => some (.int (minL i r))
    | _ => none
  | .all, .lst xs => (bolL xs).map fun l => .bl (l.all id)
  | .any, .lst xs => (bolL xs).map fun l => .bl (l.any id)
  | .sorted, .lst xs => (intL xs).map fun l => .lst ((srt l).map .int)
  | .sorted, .tup xs => none
  | .isi t, d => if isX d then none else some (.bl (isiD t d))
  | .repr, d => match toP d with
    | some p => if !p.hasDict && PyData.showable p && Nat.ble p.depth 60 && okLen p.shown.length then some (.str p.shown) else none
    | none => none
  | _, _ => none
def b2D : B2 → D → D → Option D
  | .max, .int i, .int j => some (.int (if j > i then j else i))
  | .min, .int i, .int j => some (.int (if j < i then j else i))
  | _, _, _ => none

/-- is it an object that may change -/
def isBox : D → Bool
  | .lst _ => true
  | .dct _ _ => true
  | _ => false
def dputV (k : Int) (v : D) : List Int → List D → List D
  | k' :: ks, v' :: vs => (if k' = k then v else v') :: dputV k v ks vs
  | _, vs => vs
def dput (ks : List Int) (vs : List D) (k : Int) (v : D) : List Int × List D :=
  if ks.any (fun k' => decide (k' = k)) = true then (ks, dputV k v ks vs) else (ks ++ [k], vs ++ [v])
def setD : D → D → D → Option D
  | .lst xs, .int i, v => (L2.ixN xs.length i).map fun j => .lst (xs.set j v)
  | .dct ks vs, .int i, v => if okLen (ks.length + 1) then some (.dct (dput ks vs i v).1 (dput ks vs i v).2) else none
  | _, _, _ => none
def popD (xs : List D) (i : Int) : Option (D × List D) := (L2.ixN xs.length i).bind fun j => (xs[j]?).map fun v => (v, xs.eraseIdx j)
def rangeD (lo hi : Int) : List D := (List.range (hi - lo).toNat).map fun k => .int (lo + (k : Nat))
def inR (i : Int) : Bool := decide (-(2 ^ 62) ≤ i ∧ i < 2 ^ 62)
def itemsD : D → Option (List D)
  | .tup xs => some xs
  | .lst xs => some xs
  | .fz xs => some xs
  | _ => none
def itemsL : D → Option (List D)
  | .lst xs => some xs
  | .fz xs => some xs
  | _ => none
def enumFrom (n : Nat) : List D → List D
  | [] => []
  | x :: r => .tup [.int n, x] :: enumFrom (n + 1) r
def zipD : List D → List D → List D
  | x :: xs, y :: ys => .tup [x, y] :: zipD xs ys
  | _, _ => []

def zipI (d e : D) : Option (List D) := match itemsL d, itemsL e with
  | some l, some m => some (zipD l m)
  | _, _ => match d, e with
    | .tup l, .tup m => some (zipD l m)
    | _, _ => none

/-! ### the language -/
/-- the content of a slot is changed -/
def putC (Γ : Env) (i : Nat) (d : D) : Option Env := match Γ[i]? with
  | some (.ow _) => some (Γ.set i (.ow d))
  | some (.bo _) => some (Γ.set i (.bo d))
  | _ => none
def getO (Γ : Env) (i : Nat) : Option D := match Γ[i]? with
  | some (.ow d) => some d
  | some (.bo d) => some d
  | _ => none
def isL : Option D → Bool
  | some (.lst _) => true
  | _ => false
def isC : Option D → Bool
  | some (.dct _ _) => true
  | _ => false
def getA (Γ : Env) (i : Nat) : Option D := (Γ[i]?).bind Sl.get?
def store (Γ : Env) (i : Nat) (d : D) (fr : Bool) : Option Env := match Γ[i]? with
  | some (.bo _) => none
  | some _ => some (Γ.set i (if fr then .ow d else .sh d))
  | none => none
inductive Hd where
  | v (d : D)
  | s (i : Nat)
def Hd.get (Γ : Env) : Hd → Option D
  | .v d => some d
  | .s i => getA Γ i
inductive Ah where
  | v (d : D) | r (i : Nat) | t (d : D)
def Ah.get (Γ : Env) : Ah → Option D
  | .v d => some d
  | .r i => getO Γ i
  | .t d => some d
def getAll (Γ : Env) : List Ah → Option (List D)
  | [] => some []
  | h :: r => (h.get Γ).bind fun d => (getAll Γ r).map fun l => d :: l
def Ah.isR : Ah → Bool
  | .v _ => false
  | _ => true
def modesAs : As → List Bool
  | .nil => []
  | .val _ r => false :: modesAs r
  | .ref _ r => true :: modesAs r
  | .tmp _ r => true :: modesAs r
def refsOf : List Ah → List Nat
  | [] => []
  | .r i :: r => i :: refsOf r
  | _ :: r => refsOf r
def valsOf : List Ah → Option (List D)
  | [] => some []
  | .v d :: r => (valsOf r).map fun l => d :: l
  | _ :: _ => none
/-- own classes: the base of all, and itself -/
def subX (c0 c : Str) : Bool := (c0 == c) || ((c == ("StockError" : Str)) || (c == ("ValueError" : Str)))
/-- the value of an exception; whether it is of a class -/
def exvD (cs : List Str) : D → Option D
  | .exc c d => if cs.any (fun z => z == c) = true then some d else none
  | _ => none
def isxD (cs : List Str) (c : Str) : D → Option D
  | .exc c0 _ => if cs.any (fun z => z == c0) = true then some (.bl (subX c0 c)) else none
  | _ => none
def putBack : List Ah → List D → Env → Option Env
  | [], [], Γ => some Γ
  | .v _ :: r, outs, Γ => putBack r outs Γ
  | .r i :: r, o :: outs, Γ => (putC Γ i o).bind (putBack r outs)
  | .t _ :: r, _ :: outs, Γ => putBack r outs Γ
  | _, _, _ => none
def wipeE (Γ : Env) : List Nat → Env
  | [] => Γ
  | v :: vs => (wipeE Γ vs).set v .no
def noOwn (Γ : Env) (l : List Nat) : Bool := l.all fun i => match Γ[i]? with
  | some s => !s.isOwn
  | none => true
def backE (Γ0 Γ : Env) : List Nat → Env
  | [] => Γ
  | v :: vs => (backE Γ0 Γ vs).set v (Γ0.getD v .no)

/-- what a call tells: the value, whether it is a new object of its own, what is lent back; or an exception -/
inductive Oc where
  | ok (d : D) (fr : Bool) (os : List D)
  | ex (c : Str) (d : D)
abbrev CallF := Nat → List D → Option Oc

mutual
def noY : D → Bool
  | .yng _ _ => false
  | .tup xs => noYs xs
  | .lst xs => noYs xs
  | .fz xs => noYs xs
  | .dct _ xs => noYs xs
  | .exc _ d => noY d
  | .clo _ cs => noYs cs
  | _ => true
def noYs : List D → Bool
  | [] => true
  | d :: ds => noY d && noYs ds
end
/-- what lambdas captured, as the slots stand -/
def capsV (Γ : Env) : List Nat → Option (List D)
  | [] => some []
  | i :: r => match Γ[i]? with
    | some (.sh d) => if noY d = true then (capsV Γ r).map fun l => d :: l else none
    | _ => none
mutual
/-- lambdas handed on -/
def ripe (js : List Nat) (Γ : Env) : D → Option D
  | .yng j caps => if j ∈ js then (capsV Γ caps).map fun cs => .clo j cs else none
  | .tup xs => (ripes js Γ xs).map .tup
  | .lst xs => (ripes js Γ xs).map .lst
  | d => if noY d = true then some d else none
def ripes (js : List Nat) (Γ : Env) : List D → Option (List D)
  | [] => some []
  | d :: ds => (ripe js Γ d).bind fun x => (ripes js Γ ds).map fun xs => x :: xs
end
mutual
/-- no lambda within -/
def noC : D → Bool
  | .yng _ _ => false
  | .clo _ _ => false
  | .tup xs => noCs xs
  | .lst xs => noCs xs
  | .fz xs => noCs xs
  | .dct _ xs => noCs xs
  | .exc _ d => noC d
  | _ => true
def noCs : List D → Bool
  | [] => true
  | d :: ds => noC d && noCs ds
end
def liftO {α : Type} (o : Option α) (Γ : Env) : Res α := match o with
  | some a => .ok a Γ
  | none => .no

mutual
def bind1 (Γ : Env) : Tg → D → Option Env
  | .nm i, d => store Γ i d false
  | .tp l, d => match d with
    | .tup xs => bindL Γ l xs
    | _ => none
def bindL (Γ : Env) : Tgs → List D → Option Env
  | .nil, [] => some Γ
  | .cons g r, x :: xs => match bind1 Γ g x with
    | some Γ' => bindL Γ' r xs
    | none => none
  | _, _ => none
end
def bindF (Γ : Env) (g : Tg) (d : D) (fr : Bool) : Option Env := match g with
  | .nm i => store Γ i d fr
  | .tp l => bind1 Γ (.tp l) d

/-- a comprehension's turns -/
def compL (step : D → Env → Res (Option D)) : List D → List D → Env → Res (List D)
  | [], acc, Γ => .ok acc.reverse Γ
  | x :: r, acc, Γ => match step x Γ with
    | .ok (some d) Γ' => if okLen acc.length then compL step r (d :: acc) Γ' else .no
    | .ok none Γ' => compL step r acc Γ'
    | .no => .no

inductive SRes where
  | nx (Γ : Env) | rt (d : D) (fr : Bool) (Γ : Env) | bk (Γ : Env) | ct (Γ : Env) | ex (c : Str) (d : D) (Γ : Env) | no
inductive XRes where
  | ok (r : D × Bool) (Γ : Env) | ex (c : Str) (d : D) (Γ : Env) | no
def forL (step : D → Env → SRes) : List D → Env → SRes
  | [], Γ => .nx Γ
  | x :: r, Γ => match step x Γ with
    | .nx Γ' => forL step r Γ'
    | .ct Γ' => forL step r Γ'
    | .bk Γ' => .nx Γ'
    | .rt d fr Γ' => .rt d fr Γ'
    | .ex c d Γ' => .ex c d Γ'
    | .no => .no
def whlL (test : Env → Res Bool) (step : Env → SRes) : Nat → Env → SRes
  | 0, _ => .no
  | n + 1, Γ => match test Γ with
    | .ok false Γ1 => .nx Γ1
    | .ok true Γ1 => match step Γ1 with
      | .nx Γ' => whlL test step n Γ'
      | .ct Γ' => whlL test step n Γ'
      | .bk Γ' => .nx Γ'
      | .rt d fr Γ' => .rt d fr Γ'
      | .ex c d Γ' => .ex c d Γ'
      | .no => .no
    | .no => .no
def optI : Option D → Option (Option Int)
  | none => some none
  | some (.int i) => some (some i)
  | _ => none

section
variable (cf : CallF)
mutual
def evE : E → Env → Res (D × Bool)
  | .cst d, Γ => .ok (d, false) Γ
  | .var i, Γ => match Γ[i]? with
    | some (.sh d) => .ok (d, false) Γ
    | some (.ow d) => .ok (d, false) (Γ.set i (.sh d))
    | _ => .no
  | .bin o a b, Γ => (evP a Γ).bind fun x Γ1 => (evP b Γ1).bind fun y Γ2 => match x.get Γ2, y.get Γ2 with
    | some d, some e => (liftO (bopD o d e) Γ2).bind fun r Γ3 => .ok (r, isBox r) Γ3
    | _, _ => .no
  | .neg a, Γ => (evP a Γ).bind fun x Γ1 => match x.get Γ1 with
    | some (.int i) => .ok (.int (-i), false) Γ1
    | _ => .no
  | .cmp o a b, Γ => (evP a Γ).bind fun x Γ1 => (evP b Γ1).bind fun y Γ2 => match x.get Γ2, y.get Γ2 with
    | some d, some e => (liftO (copD o d e) Γ2).bind fun r Γ3 => .ok (.bl r, false) Γ3
    | _, _ => .no
  | .chn o p a b c, Γ => (evP a Γ).bind fun x Γ1 => (evP b Γ1).bind fun y Γ2 => match x.get Γ2, y.get Γ2 with
    | some d, some e => (liftO (copD o d e) Γ2).bind fun r Γ3 => if r then (evP c Γ3).bind fun z Γ4 => match y.get Γ4, z.get Γ4 with
        | some e', some f => (liftO (copD p e' f) Γ4).bind fun r Γ5 => .ok (.bl r, false) Γ5
        | _, _ => .no
      else .ok (.bl false, false) Γ3
    | _, _ => .no
  | .andE a b, Γ => (evP a Γ).bind fun x Γ1 => match x.get Γ1 with
    | some (.bl true) => evE b Γ1
    | some (.bl false) => .ok (.bl false, false) Γ1
    | _ => .no
  | .orE a b, Γ => (evP a Γ).bind fun x Γ1 => match x.get Γ1 with
    | some (.bl false) => evE b Γ1
    | some (.bl true) => .ok (.bl true, false) Γ1
    | _ => .no
  | .notE a, Γ => (evP a Γ).bind fun x Γ1 => match x.get Γ1 with
    | some (.bl b) => .ok (.bl (!b), false) Γ1
    | _ => .no
  | .ite t a b, Γ => (evT t Γ).bind fun c Γ1 => if c then evE a Γ1 else evE b Γ1
  | .tup es, Γ => (evEs es Γ).bind fun l Γ1 => if okLen l.length then .ok (.tup (l.map (·.1)), false) Γ1 else .no
  | .lst es, Γ => (evEs es Γ).bind fun l Γ1 => if okLen l.length then .ok (.lst (l.map (·.1)), true) Γ1 else .no
  | .idx a i, Γ => (evP a Γ).bind fun x Γ1 => (evP i Γ1).bind fun y Γ2 => match x.get Γ2, y.get Γ2 with
    | some d, some e => (liftO (idxD d e) Γ2).bind fun r Γ3 => .ok (r, false) Γ3
    | _, _ => .no
  | .slc a lo hi, Γ => (evP a Γ).bind fun x Γ1 => (evO lo Γ1).bind fun l Γ2 => (evO hi Γ2).bind fun h Γ3 => match x.get Γ3 with
    | some d => (liftO (slcD d l h) Γ3).bind fun r Γ4 => .ok (r, isBox r) Γ4
    | _ => .no
  | .bl1 f a, Γ => (evP a Γ).bind fun x Γ1 => match x.get Γ1 with
    | some d => (liftO (b1D f d) Γ1).bind fun r Γ2 => .ok (r, isBox r) Γ2
    | _ => .no
  | .bl2 f a b, Γ => (evP a Γ).bind fun x Γ1 => (evP b Γ1).bind fun y Γ2 => match x.get Γ2, y.get Γ2 with
    | some d, some e => (liftO (b2D f d e) Γ2).bind fun r Γ3 => .ok (r, false) Γ3
    | _, _ => .no
  | .cal j as, Γ => (evAs as Γ).bind fun hs Γ1 => match getAll Γ1 hs with
    | some ds => if (refsOf hs).Nodup then match cf j ds with
      | some (.ok d fr outs) => (liftO (putBack hs outs Γ1) Γ1).bind fun Γ2 _ => .ok (d, fr) Γ2
      | _ => .no
      else .no
    | none => .no
  | .cmp1 elt tg it c own n, Γ => (evI it Γ).bind fun xs Γ1 => if noOwn Γ1 own && Nat.beq Γ1.length n then
      (compL (fun x Γ => match bind1 Γ tg x with
        | some Γ' => (evTs c Γ').bind fun b Γ2 => if b then (evE elt Γ2).bind fun r Γ3 => .ok (some r.1) (wipeE Γ3 own) else .ok none (wipeE Γ2 own)
        | none => .no) xs [] (wipeE Γ1 own)).bind fun l Γ2 => .ok (.lst l, true) (backE Γ1 Γ2 own)
      else .no
  | .popA i k, Γ => if isL (getO Γ i) then (evP k Γ).bind fun y Γ1 => match getO Γ1 i, y.get Γ1 with
    | some (.lst xs), some (.int j) => if decide (-(2 ^ 63) ≤ j ∧ j < 2 ^ 63) then match popD xs j with
      | some (d, r) => (liftO (putC Γ1 i (.lst r)) Γ1).bind fun Γ2 _ => .ok (d, false) Γ2
      | none => .no
      else .no
    | _, _ => .no
    else .no
  | .pop0 i, Γ => match getO Γ i with
    | some (.lst xs) => match popD xs (-1) with
      | some (d, r) => (liftO (putC Γ i (.lst r)) Γ).bind fun Γ2 _ => .ok (d, false) Γ2
      | none => .no
    | _ => .no
  | .newD, Γ => .ok (.dct [] [], true) Γ
  | .dget a k d, Γ => (evP a Γ).bind fun x Γ1 => if isC (x.get Γ1) then (evP k Γ1).bind fun y Γ2 => (evE d Γ2).bind fun z Γ3 => match x.get Γ3, y.get Γ3 with
    | some (.dct ks vs), some (.int i) => .ok ((dlook ks vs i).getD z.1, false) Γ3
    | _, _ => .no
    else .no
  | .lam j caps, Γ => .ok (.yng j caps, false) Γ
  | .caly j as js, Γ => (evAs as Γ).bind fun hs Γ1 => match valsOf hs with
    | some ds => match ripes js Γ1 ds with
      | some ds' => match cf j ds' with
        | some (.ok d false []) => if noC d = true then .ok (d, false) Γ1 else .no
        | _ => .no
      | none => .no
    | none => .no
  | .exv a cs, Γ => (evP a Γ).bind fun x Γ1 => (liftO ((x.get Γ1).bind (exvD cs)) Γ1).bind fun d Γ1 => .ok (d, false) Γ1
  | .isx a c cs, Γ => (evP a Γ).bind fun x Γ1 => (liftO ((x.get Γ1).bind (isxD cs c)) Γ1).bind fun d Γ1 => .ok (d, false) Γ1
  | .clv i as, Γ => match Γ[i]? with
    | some (.sh (.clo j cs)) => (evAs as Γ).bind fun hs Γ1 => match valsOf hs with
      | some ds => match cf j (ds ++ cs) with
        | some (.ok d fr []) => .ok (d, fr) Γ1
        | _ => .no
      | none => .no
    | _ => .no
  | .lrg b it, Γ => (evI it Γ).bind fun xs Γ1 => if isRng it && okLen xs.length then .ok (if b then .tup xs else .lst xs, !b) Γ1 else .no
  | .calT j a, Γ => (evE a Γ).bind fun r Γ1 => if r.2 then match cf j [r.1] with
    | some (.ok d fr [_]) => .ok (d, fr) Γ1
    | _ => .no
    else .no
def evP : P → Env → Res Hd
  | .pek i, Γ => match getA Γ i with
    | some _ => .ok (.s i) Γ
    | none => .no
  | .e a, Γ => (evE a Γ).bind fun r Γ1 => .ok (.v r.1) Γ1
def evO : O → Env → Res (Option Int)
  | .no, Γ => .ok none Γ
  | .so a, Γ => (evP a Γ).bind fun x Γ1 => match x.get Γ1 with
    | some (.int i) => .ok (some i) Γ1
    | _ => .no
def evT : T → Env → Res Bool
  | .val a, Γ => (evP a Γ).bind fun x Γ1 => match x.get Γ1 with
    | some d => liftO (truD d) Γ1
    | none => .no
  | .and_ a b, Γ => (evT a Γ).bind fun c Γ1 => if c then evT b Γ1 else .ok false Γ1
  | .or_ a b, Γ => (evT a Γ).bind fun c Γ1 => if c then .ok true Γ1 else evT b Γ1
  | .not_ a, Γ => (evT a Γ).bind fun c Γ1 => .ok (!c) Γ1
def evTs : Ts → Env → Res Bool
  | .nil, Γ => .ok true Γ
  | .one t, Γ => evT t Γ
def evEs : Es → Env → Res (List (D × Bool))
  | .nil, Γ => .ok [] Γ
  | .cons a r, Γ => (evE a Γ).bind fun x Γ1 => (evEs r Γ1).bind fun l Γ2 => .ok (x :: l) Γ2
def evAs : As → Env → Res (List Ah)
  | .nil, Γ => .ok [] Γ
  | .val a r, Γ => (evE a Γ).bind fun x Γ1 => (evAs r Γ1).bind fun l Γ2 => .ok (.v x.1 :: l) Γ2
  | .ref i r, Γ => if (getO Γ i).isSome = true then (evAs r Γ).bind fun l Γ2 => .ok (.r i :: l) Γ2 else .no
  | .tmp a r, Γ => (evE a Γ).bind fun x Γ1 => if x.2 then (evAs r Γ1).bind fun l Γ2 => .ok (.t x.1 :: l) Γ2 else .no
def evI : I → Env → Res (List D)
  | .seq a, Γ => (evE a Γ).bind fun x Γ1 => liftO (itemsD x.1) Γ1
  | .rng1 a, Γ => (evP a Γ).bind fun x Γ1 => match x.get Γ1 with
    | some (.int i) => if inR i then .ok (rangeD 0 i) Γ1 else .no
    | _ => .no
  | .rng2 a b, Γ => (evP a Γ).bind fun x Γ1 => (evP b Γ1).bind fun y Γ2 => match x.get Γ2, y.get Γ2 with
    | some (.int i), some (.int j) => if inR i && inR j then .ok (rangeD i j) Γ2 else .no
    | _, _ => .no
  | .rng3 _ _ _, _ => .no
  | .enm a, Γ => (evE a Γ).bind fun x Γ1 => match itemsL x.1 with
    | some l => .ok (enumFrom 0 l) Γ1
    | none => .no
  | .zip2 a b, Γ => (evE a Γ).bind fun x Γ1 => (evE b Γ1).bind fun y Γ2 => liftO (zipI x.1 y.1) Γ2
end
def storeL (Γ : Env) : List Nat → List (D × Bool) → Option Env
  | [], [] => some Γ
  | i :: l, x :: r => match store Γ i x.1 x.2 with
    | some Γ' => storeL Γ' l r
    | none => none
  | _, _ => none
def fuelW : Nat := 1000000
def evX : Xc → Env → XRes
  | .cal j as, Γ => match evAs cf as Γ with
    | .ok hs Γ1 => match getAll Γ1 hs with
      | some ds => if (refsOf hs).Nodup then match cf j ds with
        | some (.ok d fr outs) => match putBack hs outs Γ1 with
          | some Γ2 => .ok (d, fr) Γ2
          | none => .no
        | some (.ex c d) => if (refsOf hs).isEmpty then .ex c d Γ1 else .no
        | none => .no
        else .no
      | none => .no
    | .no => .no
  | .clv i as, Γ => match Γ[i]? with
    | some (.sh (.clo j cs)) => match evAs cf as Γ with
      | .ok hs Γ1 => match valsOf hs with
        | some ds => match cf j (ds ++ cs) with
          | some (.ok d fr []) => .ok (d, fr) Γ1
          | some (.ex c d) => .ex c d Γ1
          | _ => .no
        | none => .no
      | .no => .no
    | _ => .no
mutual
def evS : S → Env → SRes
  | .asg g a, Γ => match evE cf a Γ with
    | .ok r Γ1 => match bindF Γ1 g r.1 r.2 with
      | some Γ2 => .nx Γ2
      | none => .no
    | .no => .no
  | .par l es, Γ => match evEs cf es Γ with
    | .ok rs Γ1 => match storeL Γ1 l rs with
      | some Γ2 => .nx Γ2
      | none => .no
    | .no => .no
  | .set i k a, Γ => match evE cf a Γ with
    | .ok r Γ1 => if (getO Γ1 i).isSome = true then match evP cf k Γ1 with
      | .ok y Γ2 => match getO Γ2 i, y.get Γ2 with
        | some o, some kd => match setD o kd r.1 with
          | some o' => match putC Γ2 i o' with
            | some Γ3 => .nx Γ3
            | none => .no
          | none => .no
        | _, _ => .no
      | .no => .no
      else .no
    | .no => .no
  | .aug i o a, Γ => match Γ[i]? with
    | some (.sh (.int _)) => match evP cf a Γ with
      | .ok y Γ1 => match Γ1[i]?, y.get Γ1 with
        | some (.sh (.int m)), some (.int n) => match augD o m n with
          | some d => .nx (Γ1.set i (.sh (.int d)))
          | none => .no
        | _, _ => .no
      | .no => .no
    | _ => .no
  | .expr a, Γ => match evE cf a Γ with
    | .ok _ Γ1 => .nx Γ1
    | .no => .no
  | .app i a, Γ => if isL (getO Γ i) then match evE cf a Γ with
    | .ok r Γ1 => match getO Γ1 i with
      | some (.lst xs) => if okLen xs.length then match putC Γ1 i (.lst (xs ++ [r.1])) with
        | some Γ2 => .nx Γ2
        | none => .no
        else .no
      | _ => .no
    | .no => .no
    else .no
  | .ext i a, Γ => if isL (getO Γ i) then match evP cf a Γ with
    | .ok y Γ1 => match getO Γ1 i, y.get Γ1 with
      | some (.lst xs), some (.lst zs) => if okLen (xs.length + zs.length) then match putC Γ1 i (.lst (xs ++ zs)) with
        | some Γ2 => .nx Γ2
        | none => .no
        else .no
      | _, _ => .no
    | .no => .no
    else .no
  | .ret a, Γ => match evE cf a Γ with
    | .ok r Γ1 => .rt r.1 r.2 Γ1
    | .no => .no
  | .retv i, Γ => match Γ[i]? with
    | some (.ow d) => .rt d true (Γ.set i .no)
    | some (.sh d) => .rt d false Γ
    | _ => .no
  | .retn, Γ => .rt .non false Γ
  | .ite t a b, Γ => match evT cf t Γ with
    | .ok true Γ1 => evSs a Γ1
    | .ok false Γ1 => evSs b Γ1
    | .no => .no
  | .for_ g it b, Γ => match evI cf it Γ with
    | .ok xs Γ1 => forL (fun x Γ => match bind1 Γ g x with
      | some Γ' => evSs b Γ'
      | none => .no) xs Γ1
    | .no => .no
  | .whl t b, Γ => whlL (fun Γ => evT cf t Γ) (fun Γ => evSs b Γ) fuelW Γ
  | .pass, Γ => .nx Γ
  | .brk, Γ => .bk Γ
  | .cnt, Γ => .ct Γ
  | .bad, _ => .no
  | .xexp x, Γ => match evX cf x Γ with
    | .ok _ Γ1 => .nx Γ1
    | .ex c d Γ1 => .ex c d Γ1
    | .no => .no
  | .xasg i x, Γ => match evX cf x Γ with
    | .ok r Γ1 => match store Γ1 i r.1 r.2 with
      | some Γ2 => .nx Γ2
      | none => .no
    | .ex c d Γ1 => .ex c d Γ1
    | .no => .no
  | .xret x, Γ => match evX cf x Γ with
    | .ok r Γ1 => .rt r.1 r.2 Γ1
    | .ex c d Γ1 => .ex c d Γ1
    | .no => .no
  | .rais c a, Γ => match evE cf a Γ with
    | .ok r Γ1 => .ex c r.1 Γ1
    | .no => .no
  | .tryx i x e j cs, Γ => match evX cf x Γ with
    | .ok r Γ1 => match store Γ1 i r.1 r.2 with
      | some Γ2 => .nx Γ2
      | none => .no
    | .ex c d Γ1 => if cs.any (fun z => z == c) = true then match store Γ1 j (.exc c d) false with
      | some Γ2 => .nx (Γ2.set e .no)
      | none => .no
      else .no
    | .no => .no
def evSs : Ss → Env → SRes
  | .nil, Γ => .nx Γ
  | .cons a r, Γ => match evS a Γ with
    | .nx Γ1 => evSs r Γ1
    | z => z
end
end

/-! ### calls -/
structure Df where
  np : Nat
  modes : List Bool
  slots : Nat
  mkr : Bool
  body : Ss
def inSl : List Bool → List D → Option Env
  | [], [] => some []
  | m :: ms, d :: ds => (inSl ms ds).map fun r => (if m then .bo d else .sh d) :: r
  | _, _ => none
def outs : List Bool → Env → Option (List D)
  | [], _ => some []
  | true :: ms, .bo d :: Γ => (outs ms Γ).map fun r => d :: r
  | false :: ms, _ :: Γ => outs ms Γ
  | _, _ => none
def refIx (n : Nat) : List Bool → List Nat
  | [] => []
  | true :: r => n :: refIx (n + 1) r
  | false :: r => refIx (n + 1) r
def ocNoY : Oc → Bool
  | .ok d _ os => noY d && noYs os
  | .ex _ d => noY d
def runCore (cf : CallF) (f : Df) (ds : List D) : Option Oc := match inSl f.modes ds with
  | some Γ => match evSs cf f.body (Γ ++ List.replicate (f.slots - f.np) .no) with
    | .nx Γ' => (outs f.modes Γ').map fun o => .ok .non false o
    | .rt d fr Γ' => (outs f.modes Γ').map fun o => .ok d fr o
    | .ex c d _ => if f.modes.any id = true then none else some (.ex c d)
    | _ => none
  | none => none
/-- a def that makes lambdas hands none out, takes none in -/
def runDf (cf : CallF) (f : Df) (ds : List D) : Option Oc := if f.mkr = true then (if noYs ds = true then (match runCore cf f ds with
  | some oc => if ocNoY oc = true then some oc else none
  | none => none) else none) else runCore cf f ds
def callD (defs : Nat → Option Df) : Nat → CallF
  | 0, _, _ => none
  | n + 1, j, ds => match defs j with
    | some f => runDf (callD defs n) f ds
    | none => none
end Dn
end

section
set_option linter.all false
set_option autoImplicit false
set_option maxRecDepth 10000
/-! DnB: what stands for data in the heap; states; frames. -/
namespace Dn
open PySem PySem.Spec PyProof.Rows L2

/-- the frame's cells; the lambdas' texts -/
structure Cl where
  cells : List (Str × Addr)
  lams : Nat → Option Lam
structure KB where
  k : PySem.W.Frag
  c : Cl
abbrev kb (X : Cx) (C : Cl) : KB := ⟨X.K, C⟩
/-- an exception object of the class at C, its dict at dx -/
def ExH (C dx a : Addr) : HO := .ext fun h => ∃ (oe : Obj) (vs : Array Value), h.get? a = some oe ∧ Zc (.ref C) (some dx) oe ∧ oe.data = .fields vs
/-- a lambda's function object -/
def YngO (t : Lam) (cells : List (Str × Addr)) (f c' : Addr) : HO := .ext fun h => ∃ (pm ctv : Value), h.get? f = some (PySem.W.kla_obj "<lambda>" t.qual t.params t.body t.scope (cloFrom cells t.scope.names []) pm c' ctv)
/-- cells of the written part, and what they hold -/
def CellsK (k : PySem.W.Frag) : List (Str × Addr) → List V → Prop
  | [], [] => True
  | p :: cl, w :: ws => (∃ o u, k.lookup p.2 = some o ∧ o.data = .cell (some u) ∧ RelV w u) ∧ CellsK k cl ws
  | _, _ => False
/-- the code objects' tables of the defs -/
def tabOf (k : PySem.W.Frag) (cd : Value) : Option Addr := match cd with
  | .ref c => match k.lookup c with
    | some o => match o.data with
      | .fields vs => match (vs[11]? : Option Value) with
        | some (Value.ref P) => some P
        | _ => none
      | _ => none
    | none => none
  | _ => none
def tabs (k : PySem.W.Frag) : List (Addr × Str) := k.filterMap fun p => match p.2.data with
  | .func fd => if (fd.name == ("<lambda>" : Str)) then none else (tabOf k fd.code).map fun P => (P, fd.qualname ++ ".<locals>." ++ "<lambda>")
  | _ => none
abbrev AS := Addr → Prop
def un (A B : AS) : AS := fun a => A a ∨ B a
/-- a tuple of the written part -/
def KT (K : PySem.W.Frag) (a : Addr) (xs : List V) : Prop :=
  ∃ (o : Obj) (its : Array Value) (n : Nat), K.lookup a = some o ∧ o.cls = .type "tuple" ∧ o.data = .seq its n ∧ its.size ≤ sizeLine ∧ Vals xs its.toList
def RdT (K : PySem.W.Frag) (H : Hp) (A : AS) (a : Addr) (vs : List V) : Prop := (¬ A a ∧ H a = some (.tup vs)) ∨ KT K a vs
theorem RdT.sq {K : PySem.W.Frag} {H : Hp} {A : AS} {a : Addr} {vs : List V} (h : RdT K H A a vs) : SqT K H a vs := by
  rcases h with ⟨_, h⟩ | h
  · exact .inl (.inl h)
  · exact .inr h
section
variable (K : KB) (H : Hp) (A : AS)
mutual
def Rp : D → V → Prop
  | .non, v => v = .non
  | .bl b, v => v = .bl b
  | .int i, v => v = .int i
  | .str x, v => v = .str x
  | .tup xs, v => ∃ a vs, v = .ref a ∧ RdT K.k H A a vs ∧ Rps xs vs
  | .lst xs, v => ∃ a vs, v = .ref a ∧ ¬ A a ∧ H a = some (.lst vs) ∧ Rps xs vs
  | .fz xs, v => ∃ a o vs, v = .ref a ∧ ¬ A a ∧ H a = some (.frz o (.lst vs)) ∧ Rps xs vs
  | .dct ks xs, v => ∃ a kvs, v = .ref a ∧ ¬ A a ∧ H a = some (.dK kvs) ∧ kvs.map (·.1) = ks.map Sum.inl ∧ Rps xs (kvs.map (·.2))
  | .exc c d, v => ∃ a dx w, v = .ref a ∧ ¬ A a ∧ H a = some (ExH (He.ga K.k c) dx a) ∧ ¬ A dx ∧ H dx = some (.xd [("value", w)]) ∧ Rp d w
  | .yng j caps, v => ∃ t f c', (K.c.lams j = some t ∧ t.caps = caps) ∧ v = .ref f ∧ ¬ A f ∧ H f = some (YngO t K.c.cells f c') ∧ ¬ A c' ∧ H c' = some (LamX.CodeO c' t.qual)
  | .clo j cs, v => ∃ t f c' pm ctv cl ws, K.c.lams j = some t ∧ v = .ref f ∧ K.k.lookup f = some (PySem.W.kla_obj "<lambda>" t.qual t.params t.body t.scope cl pm c' ctv) ∧ ¬ A c' ∧ H c' = some (LamX.CodeO c' t.qual) ∧ cl.map (·.1) = t.names ∧ (cl.map (·.2)).Nodup ∧ CellsK K.k cl ws ∧ Rps cs ws
def Rps : List D → List V → Prop
  | [], vs => vs = []
  | d :: ds, vs => ∃ v r, vs = v :: r ∧ Rp d v ∧ Rps ds r
end
/-- an object that may change, with its content -/
def Own (a : Addr) : D → Prop
  | .lst xs => ∃ vs, H a = some (.lst vs) ∧ Rps K H A xs vs
  | .dct ks xs => ∃ kvs, H a = some (.dK kvs) ∧ kvs.map (·.1) = ks.map Sum.inl ∧ Rps K H A xs (kvs.map (·.2))
  | _ => False
end
section
variable {K : KB} {H H' : Hp} {A A' : AS}
mutual
theorem Rp.mono (k : ∀ a o, H a = some o → ¬ A a → H' a = some o ∧ ¬ A' a) : ∀ (d : D) (v : V), Rp K H A d v → Rp K H' A' d v
  | .non, v, h => h
  | .bl b, v, h => h
  | .int i, v, h => h
  | .str x, v, h => h
  | .tup xs, v, ⟨a, vs, e, r, h⟩ => by
    refine ⟨a, vs, e, ?_, Rps.mono k xs vs h⟩
    rcases r with ⟨na, r⟩ | r
    · exact .inl ⟨(k a _ r na).2, (k a _ r na).1⟩
    · exact .inr r
  | .lst xs, v, ⟨a, vs, e, na, r, h⟩ => ⟨a, vs, e, (k a _ r na).2, (k a _ r na).1, Rps.mono k xs vs h⟩
  | .fz xs, v, ⟨a, o, vs, e, na, r, h⟩ => ⟨a, o, vs, e, (k a _ r na).2, (k a _ r na).1, Rps.mono k xs vs h⟩
  | .dct ks xs, v, ⟨a, kvs, e, na, r, q, h⟩ => ⟨a, kvs, e, (k a _ r na).2, (k a _ r na).1, q, Rps.mono k xs _ h⟩
  | .exc c d, v, ⟨a, dx, w, e, na, r, nd, q, h⟩ => ⟨a, dx, w, e, (k a _ r na).2, (k a _ r na).1, (k dx _ q nd).2, (k dx _ q nd).1, Rp.mono k d w h⟩
  | .yng j caps, v, ⟨t, f, c', l, e, nf, r, nc, q⟩ => ⟨t, f, c', l, e, (k f _ r nf).2, (k f _ r nf).1, (k c' _ q nc).2, (k c' _ q nc).1⟩
  | .clo j cs, v, ⟨t, f, c', pm, ctv, cl, ws, l, e, r, nc, q, n, nd, z, h⟩ => ⟨t, f, c', pm, ctv, cl, ws, l, e, r, (k c' _ q nc).2, (k c' _ q nc).1, n, nd, z, Rps.mono k cs ws h⟩
theorem Rps.mono (k : ∀ a o, H a = some o → ¬ A a → H' a = some o ∧ ¬ A' a) : ∀ (ds : List D) (vs : List V), Rps K H A ds vs → Rps K H' A' ds vs
  | [], vs, h => h
  | d :: ds, vs, ⟨v, r, e, h1, h2⟩ => ⟨v, r, e, Rp.mono k d v h1, Rps.mono k ds r h2⟩
end
theorem Rps.len : ∀ {ds : List D} {vs : List V}, Rps K H A ds vs → ds.length = vs.length
  | [], _, h => by cases h; rfl
  | d :: ds, _, ⟨v, r, e, _, h2⟩ => by subst e; simp [Rps.len h2]
theorem Rps.app : ∀ {ds es : List D} {vs ws : List V}, Rps K H A ds vs → Rps K H A es ws → Rps K H A (ds ++ es) (vs ++ ws)
  | [], _, _, _, h, h' => by cases h; exact h'
  | d :: ds, _, _, _, ⟨v, r, e, h1, h2⟩, h' => by subst e; exact ⟨v, _, rfl, h1, Rps.app h2 h'⟩
theorem Rps.one {d : D} {v : V} (h : Rp K H A d v) : Rps K H A [d] [v] := ⟨v, [], rfl, h, rfl⟩
theorem Rps.get : ∀ {ds : List D} {vs : List V} {i : Nat} {d : D}, Rps K H A ds vs → ds[i]? = some d → ∃ v, vs[i]? = some v ∧ Rp K H A d v
  | [], _, i, d, _, e => by simp at e
  | d :: ds, _, 0, d', ⟨v, r, e, h1, h2⟩, e' => by subst e; simp at e'; subst e'; exact ⟨v, rfl, h1⟩
  | d :: ds, _, i + 1, d', ⟨v, r, e, h1, h2⟩, e' => by
    subst e
    obtain ⟨w, q1, q2⟩ := Rps.get (i := i) h2 (by simpa using e')
    exact ⟨w, by simpa using q1, q2⟩
theorem Rps.get' : ∀ {ds : List D} {vs : List V} {i : Nat} {v : V}, Rps K H A ds vs → vs[i]? = some v → ∃ d, ds[i]? = some d ∧ Rp K H A d v
  | [], _, i, d, h, e => by cases h; simp at e
  | d :: ds, _, 0, v', ⟨v, r, e, h1, h2⟩, e' => by subst e; simp at e'; subst e'; exact ⟨d, rfl, h1⟩
  | d :: ds, _, i + 1, v', ⟨v, r, e, h1, h2⟩, e' => by
    subst e
    obtain ⟨w, q1, q2⟩ := Rps.get' (i := i) h2 (by simpa using e')
    exact ⟨w, by simpa using q1, q2⟩
theorem Rps.set : ∀ {ds : List D} {vs : List V} {d : D} {v : V} (i : Nat), Rps K H A ds vs → Rp K H A d v → Rps K H A (ds.set i d) (vs.set i v)
  | [], _, _, _, i, h, _ => by cases h; rfl
  | d :: ds, _, _, v', 0, ⟨v, r, e, h1, h2⟩, q => by subst e; exact ⟨v', r, rfl, q, h2⟩
  | d :: ds, _, _, v', i + 1, ⟨v, r, e, h1, h2⟩, q => by subst e; exact ⟨v, r.set i v', rfl, h1, Rps.set i h2 q⟩
theorem Rps.erase : ∀ {ds : List D} {vs : List V} (i : Nat), Rps K H A ds vs → Rps K H A (ds.eraseIdx i) (vs.eraseIdx i)
  | [], _, i, h => by cases h; rfl
  | d :: ds, _, 0, ⟨v, r, e, h1, h2⟩ => by subst e; exact h2
  | d :: ds, _, i + 1, ⟨v, r, e, h1, h2⟩ => by subst e; exact ⟨v, r.eraseIdx i, rfl, h1, Rps.erase i h2⟩
theorem Rps.take : ∀ {ds : List D} {vs : List V} (i : Nat), Rps K H A ds vs → Rps K H A (ds.take i) (vs.take i)
  | [], _, i, h => by cases h; simp [Rps]
  | d :: ds, _, 0, ⟨v, r, e, h1, h2⟩ => by simp [Rps]
  | d :: ds, _, i + 1, ⟨v, r, e, h1, h2⟩ => by subst e; exact ⟨v, r.take i, rfl, h1, Rps.take i h2⟩
theorem Rps.drop : ∀ {ds : List D} {vs : List V} (i : Nat), Rps K H A ds vs → Rps K H A (ds.drop i) (vs.drop i)
  | [], _, i, h => by cases h; simp [Rps]
  | d :: ds, _, 0, h => by simpa using h
  | d :: ds, _, i + 1, ⟨v, r, e, h1, h2⟩ => by subst e; exact Rps.drop i h2
theorem Rps.flat : ∀ (k : Nat) {ds : List D} {vs : List V}, Rps K H A ds vs → Rps K H A (List.replicate k ds).flatten (List.replicate k vs).flatten
  | 0, _, _, _ => rfl
  | k + 1, ds, vs, h => by
    rw [List.replicate_succ, List.replicate_succ, List.flatten_cons, List.flatten_cons]
    exact Rps.app h (Rps.flat k h)
theorem Rps.rev_app : ∀ {ds : List D} {vs : List V}, Rps K H A ds vs → Rps K H A ds.reverse vs.reverse
  | [], _, h => by cases h; rfl
  | d :: ds, _, ⟨v, r, e, h1, h2⟩ => by
    subst e
    rw [List.reverse_cons, List.reverse_cons]
    exact Rps.app (Rps.rev_app h2) (Rps.one h1)
theorem Rps.intL : ∀ {ds : List D} {vs : List V} {l : List Int}, Rps K H A ds vs → intL ds = some l → vs = l.map V.int
  | [], _, _, h, e => by cases h; cases e; rfl
  | .int i :: ds, _, l, ⟨v, r, e, h1, h2⟩, q => by
    subst e
    unfold Dn.intL at q
    obtain ⟨l', q1, q2⟩ := Option.map_eq_some_iff.mp q
    subst q2
    have h1' : v = .int i := h1
    rw [h1', Rps.intL h2 q1]; rfl
  | .non :: _, _, _, _, q => by cases q
  | .bl _ :: _, _, _, _, q => by cases q
  | .str _ :: _, _, _, _, q => by cases q
  | .tup _ :: _, _, _, _, q => by cases q
  | .lst _ :: _, _, _, _, q => by cases q
  | .fz _ :: _, _, _, _, q => by cases q
  | .dct _ _ :: _, _, _, _, q => by cases q
  | .exc _ _ :: _, _, _, _, q => by cases q
  | .yng _ _ :: _, _, _, _, q => by cases q
  | .clo _ _ :: _, _, _, _, q => by cases q
theorem Rps.bolL : ∀ {ds : List D} {vs : List V} {l : List Bool}, Rps K H A ds vs → bolL ds = some l → vs = l.map V.bl
  | [], _, _, h, e => by cases h; cases e; rfl
  | .bl i :: ds, _, l, ⟨v, r, e, h1, h2⟩, q => by
    subst e
    unfold Dn.bolL at q
    obtain ⟨l', q1, q2⟩ := Option.map_eq_some_iff.mp q
    subst q2
    have h1' : v = .bl i := h1
    rw [h1', Rps.bolL h2 q1]; rfl
  | .non :: _, _, _, _, q => by cases q
  | .int _ :: _, _, _, _, q => by cases q
  | .str _ :: _, _, _, _, q => by cases q
  | .tup _ :: _, _, _, _, q => by cases q
  | .lst _ :: _, _, _, _, q => by cases q
  | .fz _ :: _, _, _, _, q => by cases q
  | .dct _ _ :: _, _, _, _, q => by cases q
  | .exc _ _ :: _, _, _, _, q => by cases q
  | .yng _ _ :: _, _, _, _, q => by cases q
  | .clo _ _ :: _, _, _, _, q => by cases q
theorem Rps.ofInts : ∀ (l : List Int), Rps K H A (l.map .int) (l.map V.int)
  | [] => rfl
  | i :: l => ⟨_, _, rfl, rfl, Rps.ofInts l⟩
mutual
theorem Rp.dp : ∀ (d : D) (v : V) (p : PyData), Rp K H A d v → toP d = some p → Dp K.k H v p
  | .non, v, p, h, e => by cases h; cases e; exact .non
  | .bl b, v, p, h, e => by cases h; cases e; exact .bl b
  | .int i, v, p, h, e => by cases h; cases e; exact .int i
  | .str x, v, p, h, e => by cases h; cases e; exact .str x
  | .tup xs, v, p, ⟨a, vs, q, r, h⟩, e => by
    unfold toP at e
    obtain ⟨ps, e1, e2⟩ := Option.map_eq_some_iff.mp e
    subst q e2
    exact .tup r.sq (Rps.dp xs vs ps h e1)
  | .lst xs, v, p, ⟨a, vs, q, na, r, h⟩, e => by
    unfold toP at e
    obtain ⟨ps, e1, e2⟩ := Option.map_eq_some_iff.mp e
    subst q e2
    exact .lst (.inl (.inl r)) (Rps.dp xs vs ps h e1)
  | .fz xs, v, p, ⟨a, o, vs, q, na, r, h⟩, e => by
    unfold toP at e
    obtain ⟨ps, e1, e2⟩ := Option.map_eq_some_iff.mp e
    subst q e2
    exact .lst (.inl (.inr ⟨o, r⟩)) (Rps.dp xs vs ps h e1)
  | .dct ks xs, v, p, _, e => by cases e
  | .exc _ _, v, p, _, e => by cases e
  | .yng _ _, v, p, _, e => by cases e
  | .clo _ _, v, p, _, e => by cases e
theorem Rps.dp : ∀ (ds : List D) (vs : List V) (ps : List PyData), Rps K H A ds vs → toPs ds = some ps → DpAll K.k H vs ps
  | [], vs, ps, h, e => by cases h; cases e; exact .nil
  | d :: ds, vs, ps, ⟨v, r, q, h1, h2⟩, e => by
    unfold toPs at e
    obtain ⟨p, e1, e2⟩ := Option.bind_eq_some_iff.mp e
    obtain ⟨pr, e3, e4⟩ := Option.map_eq_some_iff.mp e2
    subst q e4
    exact .cons (Rp.dp d v p h1 e1) (Rps.dp ds r pr h2 e3)
end
/-- frozen or owned -/
theorem Rp.ofOwn {a : Addr} {d : D} (h : Own K H A a d) (na : ¬ A a) : Rp K H A d (.ref a) := by
  cases d with
  | lst xs => obtain ⟨vs, e, r⟩ := h; exact ⟨a, vs, rfl, na, e, r⟩
  | dct ks xs => obtain ⟨vs, e, q, r⟩ := h; exact ⟨a, vs, rfl, na, e, q, r⟩
  | _ => exact h.elim
theorem Own.box {a : Addr} {d : D} (h : Own K H A a d) : isBox d = true := by
  cases d with
  | lst xs => rfl
  | dct ks xs => rfl
  | _ => exact h.elim
theorem Own.there {a : Addr} {d : D} (h : Own K H A a d) : H a ≠ none := by
  cases d with
  | lst xs => obtain ⟨vs, e, r⟩ := h; rw [e]; exact fun z => by cases z
  | dct ks xs => obtain ⟨vs, e, r⟩ := h; rw [e]; exact fun z => by cases z
  | _ => exact h.elim
theorem Own.mono {a : Addr} {d : D} (h : Own K H A a d) (ha : H' a = H a) (k : ∀ a o, H a = some o → ¬ A a → H' a = some o ∧ ¬ A' a) : Own K H' A' a d := by
  cases d with
  | lst xs => obtain ⟨vs, e, r⟩ := h; exact ⟨vs, by rw [ha]; exact e, Rps.mono k _ _ r⟩
  | dct ks xs => obtain ⟨vs, e, q, r⟩ := h; exact ⟨vs, by rw [ha]; exact e, q, Rps.mono k _ _ r⟩
  | _ => exact h.elim
end

/-- what a step may change: what is owned, and new objects -/
structure Fr (H : Hp) (M : AS) (H' : Hp) (M' : AS) : Prop where
  kp : ∀ a o, H a = some o → ¬ M a → H' a = some o
  nw : ∀ a, M' a → M a ∨ H a = none
  dm : ∀ a, H a ≠ none → H' a ≠ none
section
variable {H H1 H2 : Hp} {M M1 M2 Z : AS}
theorem Fr.refl : Fr H M H M := ⟨fun _ _ e _ => e, fun _ e => .inl e, fun _ e => e⟩
theorem Fr.trans (a : Fr H M H1 M1) (b : Fr H1 M1 H2 M2) : Fr H M H2 M2 := by
  refine ⟨fun x o e n => ?_, fun x m => ?_, fun x n => b.dm x (a.dm x n)⟩
  · have e1 := a.kp x o e n
    refine b.kp x o e1 fun m1 => ?_
    rcases a.nw x m1 with z | z
    · exact n z
    · rw [e] at z; cases z
  · by_cases hm : M x
    · exact .inl hm
    · refine .inr ?_
      cases hx : H x with
      | none => rfl
      | some o =>
        have e1 := a.kp x o hx hm
        rcases b.nw x m with z | z
        · rcases a.nw x z with q | q
          · exact absurd q hm
          · rw [hx] at q; cases q
        · rw [e1] at z; cases z
/-- Z is kept -/
theorem Fr.out (f : Fr H M H1 M1) (zm : ∀ a, Z a → ¬ M a) : ∀ a o, H a = some o → ¬ un M Z a → H1 a = some o ∧ ¬ un M1 Z a := fun a o e n => by
  have nm : ¬ M a := fun z => n (.inl z)
  refine ⟨f.kp a o e nm, fun z => ?_⟩
  rcases z with z | z
  · rcases f.nw a z with q | q
    · exact nm q
    · rw [e] at q; cases q
  · exact n (.inr z)
end

def SlOk (K : KB) (H : Hp) (Z M : AS) (s : Sl) (o : Option (Option V)) : Prop := match s with
  | .no => True
  | .sh d => ∃ v, o = some (some v) ∧ Rp K H (un M Z) d v
  | .ow d => ∃ a, o = some (some (V.ref a)) ∧ M a ∧ Own K H (un M Z) a d
  | .bo d => ∃ a, o = some (some (V.ref a)) ∧ M a ∧ Own K H (un M Z) a d
structure Rel (K : KB) (Z : AS) (Γ : Env) (σ : L2.St) (H : Hp) (M : AS) : Prop where
  len : Γ.length = σ.length
  sl : ∀ (i : Nat) (s : Sl), Γ[i]? = some s → SlOk K H Z M s σ[i]?
  inj : ∀ (i j : Nat) (s t : Sl) (a : Addr), i ≠ j → Γ[i]? = some s → Γ[j]? = some t → s.isOwn = true → t.isOwn = true → σ[i]? = some (some (V.ref a)) → σ[j]? ≠ some (some (V.ref a))
  zm : ∀ a, Z a → ¬ M a
  zd : ∀ a, Z a → H a ≠ none
  md : ∀ a, M a → H a ≠ none
  tb : ∀ p ∈ tabs K.k, M p.1 ∧ LamX.TabS H p.1 p.2
  nc : ∀ a, un M Z a → ∀ (_ : Addr) (q : Heap → Prop), H a ≠ some (.ext q)
/-- no slot owns a -/
def Apart (Γ : Env) (σ : L2.St) (a : Addr) : Prop := ∀ (i : Nat) (s : Sl), Γ[i]? = some s → s.isOwn = true → σ[i]? ≠ some (some (V.ref a))
section
variable {K : KB} {Z : AS} {Γ Γ' : Env} {σ : L2.St} {H H' : Hp} {M M' : AS}
theorem Rel.dom (r : Rel K Z Γ σ H M) {a : Addr} (h : H a = none) : ¬ un M Z a := fun z => by
  rcases z with z | z
  · exact r.md a z h
  · exact r.zd a z h
/-- the same slots over a heap that grew; the owned ones as they were -/
theorem Rel.grow (r : Rel K Z Γ σ H M) (f : Fr H M H' M') (keep : ∀ a, M a → H' a = H a ∧ M' a) (zd : ∀ a, Z a → H' a ≠ none) (md : ∀ a, M' a → H' a ≠ none) (nc : ∀ a, M' a → ¬ M a → ∀ (_ : Addr) (q : Heap → Prop), H' a ≠ some (.ext q)) : Rel K Z Γ σ H' M' := by
  have k := f.out r.zm
  refine ⟨r.len, fun i s e => ?_, r.inj, fun a z m => ?_, zd, md, fun p hp => ⟨(keep p.1 (r.tb p hp).1).2, (r.tb p hp).2.ext fun b o e => ?_⟩, fun a z c q => ?_⟩
  rotate_left 3
  · rcases z with z | z
    · by_cases hm : M a
      · rw [(keep a hm).1]; exact r.nc a (.inl hm) c q
      · exact nc a z hm c q
    · obtain ⟨o, ho⟩ := Option.ne_none_iff_exists'.mp (r.zd a z)
      rw [f.kp a o ho (r.zm a z), ← ho]
      exact r.nc a (.inr z) c q
  rotate_right 1
  · by_cases hb : M b
    · rw [(keep b hb).1]; exact e
    · exact f.kp b o e hb
  · have q := r.sl i s e
    cases s with
    | no => trivial
    | sh d => obtain ⟨v, e1, h⟩ := q; exact ⟨v, e1, h.mono k _ _⟩
    | ow d => obtain ⟨a, e1, m, h⟩ := q; exact ⟨a, e1, (keep a m).2, h.mono (keep a m).1 k⟩
    | bo d => obtain ⟨a, e1, m, h⟩ := q; exact ⟨a, e1, (keep a m).2, h.mono (keep a m).1 k⟩
  · rcases f.nw a m with q | q
    · exact r.zm a z q
    · exact r.zd a z q
end

def no1 (M : AS) (a : Addr) : AS := fun b => M b ∧ b ≠ a
def and1 (M : AS) (a : Addr) : AS := fun b => M b ∨ b = a
theorem get_set {α : Type} {l : List α} {i j : Nat} {x y : α} (h : (l.set i x)[j]? = some y) : (i = j ∧ y = x) ∨ (i ≠ j ∧ l[j]? = some y) := by
  by_cases e : i = j
  · subst e
    refine .inl ⟨rfl, ?_⟩
    by_cases hl : i < l.length
    · rw [List.getElem?_set_self hl] at h
      exact (Option.some.inj h).symm
    · rw [List.getElem?_eq_none (by simpa using Nat.le_of_not_lt hl)] at h
      cases h
  · exact .inr ⟨e, by rw [List.getElem?_set_ne e] at h; exact h⟩
section
variable {K : KB} {Z : AS} {Γ Γ' : Env} {σ : L2.St} {H H' : Hp} {M M' : AS}
/-- an owned object is no table -/
theorem Rel.noTab (r : Rel K Z Γ σ H M) {a : Addr} (h : ∀ ps, H a ≠ some (.tbl ps)) : ∀ p ∈ tabs K.k, no1 M a p.1 ∧ LamX.TabS H p.1 p.2 := fun p hp => by
  obtain ⟨m, t⟩ := r.tb p hp
  obtain ⟨ps, e, _⟩ := id t
  exact ⟨⟨m, fun z => h ps (by rw [← z]; exact e)⟩, t⟩
theorem Own.noTab {a : Addr} {d : D} {A : AS} (h : Own K H A a d) (ps : Array Value) : H a ≠ some (.tbl ps) := by
  cases d with
  | lst xs => obtain ⟨vs, e, r⟩ := h; rw [e]; exact fun z => by cases z
  | dct ks xs => obtain ⟨vs, e, r⟩ := h; rw [e]; exact fun z => by cases z
  | _ => exact h.elim
theorem Own.noExt {a : Addr} {d : D} {A : AS} (h : Own K H A a d) (_ : Addr) (q : Heap → Prop) : H a ≠ some (.ext q) := by
  cases d with
  | lst xs => obtain ⟨vs, e, r⟩ := h; rw [e]; exact fun z => by cases z
  | dct ks xs => obtain ⟨vs, e, r⟩ := h; rw [e]; exact fun z => by cases z
  | _ => exact h.elim
theorem Own.noCode {a : Addr} {d : D} {A : AS} (h : Own K H A a d) (c : Addr) (q : Str) : H a ≠ some (LamX.CodeO c q) := by
  cases d with
  | lst xs => obtain ⟨vs, e, r⟩ := h; rw [e]; exact fun z => by cases z
  | dct ks xs => obtain ⟨vs, e, r⟩ := h; rw [e]; exact fun z => by cases z
  | _ => exact h.elim
theorem tab_upd {a P : Addr} {q : Str} {o : HO} (h1 : ∀ ps, H a ≠ some (.tbl ps)) (h2 : ∀ c q, H a ≠ some (LamX.CodeO c q)) (t : LamX.TabS H P q) : LamX.TabS (upd H a o) P q := by
  obtain ⟨ps, e1, e2, e3⟩ := t
  refine ⟨ps, ?_, e2, fun pos cv hc => ?_⟩
  · rw [upd_ne (fun z => h1 ps (by rw [← z]; exact e1))]
    exact e1
  · obtain ⟨c, e4, e5⟩ := e3 pos cv hc
    refine ⟨c, e4, ?_⟩
    rw [upd_ne (fun z => h2 c q (by rw [← z]; exact e5))]
    exact e5
theorem Fr.no1 {a : Addr} : Fr H M H (no1 M a) := ⟨fun _ _ e _ => e, fun _ m => .inl m.1, fun _ e => e⟩
/-- the slot's owned object is frozen -/
theorem Rel.freeze (r : Rel K Z Γ σ H M) {i : Nat} {d : D} (e : Γ[i]? = some (.ow d)) :
    ∃ a, σ[i]? = some (some (V.ref a)) ∧ M a ∧ Own K H (un M Z) a d ∧ Rel K Z (Γ.set i (.sh d)) σ H (no1 M a) ∧ Rp K H (un (no1 M a) Z) d (.ref a) := by
  obtain ⟨a, e1, m, o⟩ := r.sl i _ e
  have k : ∀ b u, H b = some u → ¬ un M Z b → H b = some u ∧ ¬ un (Dn.no1 M a) Z b := fun b u q n => ⟨q, fun z => n (z.elim (fun z => .inl z.1) .inr)⟩
  have na : ¬ un (Dn.no1 M a) Z a := fun z => z.elim (fun z => z.2 rfl) (fun z => r.zm a z m)
  have hp : Rp K H (un (Dn.no1 M a) Z) d (.ref a) := Rp.ofOwn (o.mono rfl k) na
  refine ⟨a, e1, m, o, ⟨by rw [List.length_set]; exact r.len, fun j s q => ?_, fun j l s t b hne qs qt os ot hj => ?_, fun b z m => r.zm b z m.1, r.zd, fun b m => r.md b m.1, r.noTab o.noTab, fun b z => r.nc b (z.elim (fun z => .inl z.1) .inr)⟩, hp⟩
  · rcases get_set q with ⟨rfl, rfl⟩ | ⟨hne, q⟩
    · exact ⟨_, e1, hp⟩
    · have z := r.sl j s q
      cases s with
      | no => trivial
      | sh d' => obtain ⟨v, e2, h⟩ := z; exact ⟨v, e2, h.mono k _ _⟩
      | ow d' => obtain ⟨b, e2, mb, h⟩ := z; exact ⟨b, e2, ⟨mb, fun z => r.inj i j _ _ a hne e q rfl rfl e1 (by rw [e2, z])⟩, h.mono rfl k⟩
      | bo d' => obtain ⟨b, e2, mb, h⟩ := z; exact ⟨b, e2, ⟨mb, fun z => r.inj i j _ _ a hne e q rfl rfl e1 (by rw [e2, z])⟩, h.mono rfl k⟩
  · rcases get_set qs with ⟨rfl, rfl⟩ | ⟨h1, qs⟩
    · cases os
    · rcases get_set qt with ⟨rfl, rfl⟩ | ⟨h2, qt⟩
      · cases ot
      · exact r.inj j l s t b hne qs qt os ot hj
/-- an owned object that no slot has is frozen -/
theorem Rel.thaw (r : Rel K Z Γ σ H M) {a : Addr} {d : D} (m : M a) (ap : Apart Γ σ a) (o : Own K H (un M Z) a d) : Rel K Z Γ σ H (no1 M a) ∧ Rp K H (un (no1 M a) Z) d (.ref a) := by
  have k : ∀ b u, H b = some u → ¬ un M Z b → H b = some u ∧ ¬ un (Dn.no1 M a) Z b := fun b u q n => ⟨q, fun z => n (z.elim (fun z => .inl z.1) .inr)⟩
  have na : ¬ un (Dn.no1 M a) Z a := fun z => z.elim (fun z => z.2 rfl) (fun z => r.zm a z m)
  refine ⟨⟨r.len, fun j s q => ?_, r.inj, fun b z m => r.zm b z m.1, r.zd, fun b m => r.md b m.1, r.noTab o.noTab, fun b z => r.nc b (z.elim (fun z => .inl z.1) .inr)⟩, Rp.ofOwn (o.mono rfl k) na⟩
  have z := r.sl j s q
  cases s with
  | no => trivial
  | sh d' => obtain ⟨v, e2, h⟩ := z; exact ⟨v, e2, h.mono k _ _⟩
  | ow d' => obtain ⟨b, e2, mb, h⟩ := z; exact ⟨b, e2, ⟨mb, fun z => ap j _ q rfl (by rw [e2, z])⟩, h.mono rfl k⟩
  | bo d' => obtain ⟨b, e2, mb, h⟩ := z; exact ⟨b, e2, ⟨mb, fun z => ap j _ q rfl (by rw [e2, z])⟩, h.mono rfl k⟩
/-- an owned object that no slot has is put aside -/
theorem Rel.aside (r : Rel K Z Γ σ H M) {a : Addr} (m : M a) (ap : Apart Γ σ a) (nt : ∀ ps, H a ≠ some (.tbl ps)) : Rel K (and1 Z a) Γ σ H (no1 M a) := by
  have k : ∀ b u, H b = some u → ¬ un M Z b → H b = some u ∧ ¬ un (Dn.no1 M a) (and1 Z a) b := fun b u q n => ⟨q, fun z => n (by
    rcases z with z | z
    · exact .inl z.1
    · rcases z with z | z
      · exact .inr z
      · rw [z]; exact .inl m)⟩
  refine ⟨r.len, fun j s q => ?_, r.inj, fun b z m' => ?_, fun b z => ?_, fun b m => r.md b m.1, r.noTab nt, fun b z => r.nc b (by
    rcases z with z | z | z
    · exact .inl z.1
    · exact .inr z
    · rw [z]; exact .inl m)⟩
  · have z := r.sl j s q
    cases s with
    | no => trivial
    | sh d' => obtain ⟨v, e2, h⟩ := z; exact ⟨v, e2, h.mono k _ _⟩
    | ow d' => obtain ⟨b, e2, mb, h⟩ := z; exact ⟨b, e2, ⟨mb, fun z => ap j _ q rfl (by rw [e2, z])⟩, h.mono rfl k⟩
    | bo d' => obtain ⟨b, e2, mb, h⟩ := z; exact ⟨b, e2, ⟨mb, fun z => ap j _ q rfl (by rw [e2, z])⟩, h.mono rfl k⟩
  · rcases z with z | z
    · exact r.zm b z m'.1
    · exact m'.2 z
  · rcases z with z | z
    · exact r.zd b z
    · rw [z]; exact r.md a m
/-- and taken back -/
theorem Rel.aback {a : Addr} (r : Rel K (and1 Z a) Γ σ H M) (nz : ¬ Z a) : Rel K Z Γ σ H (and1 M a) := by
  have k : ∀ b u, H b = some u → ¬ un M (and1 Z a) b → H b = some u ∧ ¬ un (and1 M a) Z b := fun b u q n => ⟨q, fun z => n (by
    rcases z with z | z
    · rcases z with z | z
      · exact .inl z
      · exact .inr (.inr z)
    · exact .inr (.inl z))⟩
  refine ⟨r.len, fun j s q => ?_, r.inj, fun b z m' => ?_, fun b z => r.zd b (.inl z), fun b m => ?_, fun p hp => ⟨.inl (r.tb p hp).1, (r.tb p hp).2⟩, fun b z => r.nc b (by
    rcases z with (z | z) | z
    · exact .inl z
    · exact .inr (.inr z)
    · exact .inr (.inl z))⟩
  · have z := r.sl j s q
    cases s with
    | no => trivial
    | sh d' => obtain ⟨v, e2, h⟩ := z; exact ⟨v, e2, h.mono k _ _⟩
    | ow d' => obtain ⟨b, e2, mb, h⟩ := z; exact ⟨b, e2, .inl mb, h.mono rfl k⟩
    | bo d' => obtain ⟨b, e2, mb, h⟩ := z; exact ⟨b, e2, .inl mb, h.mono rfl k⟩
  · rcases m' with m' | m'
    · exact r.zm b (.inl z) m'
    · rw [m'] at z; exact nz z
  · rcases m with m | m
    · exact r.md b m
    · exact r.zd b (.inr m)
theorem apart_of_none (r : Rel K Z Γ σ H M) {a : Addr} (h : ¬ M a) : Apart Γ σ a := fun i s q o e => by
  have z := r.sl i s q
  cases s with
  | no => cases o
  | sh d => cases o
  | ow d => obtain ⟨b, e2, mb, _⟩ := z; rw [e] at e2; cases e2; exact h mb
  | bo d => obtain ⟨b, e2, mb, _⟩ := z; rw [e] at e2; cases e2; exact h mb
/-- a new object beside -/
theorem Rel.new (r : Rel K Z Γ σ H M) {p : Addr} (h : H p = none) (o : HO) : Rel K Z Γ σ (upd H p o) M ∧ Fr H M (upd H p o) M ∧ ∀ b u, H b = some u → ¬ un M Z b → upd H p o b = some u ∧ ¬ un M Z b := by
  have k1 : ∀ b u, H b = some u → upd H p o b = some u := fun b u q => by rw [upd_ne (ne_of_none q h)]; exact q
  have nn : ∀ a, H a ≠ none → upd H p o a ≠ none := fun a q z => by
    cases e : H a with
    | none => exact q e
    | some u => rw [k1 a u e] at z; cases z
  have f : Fr H M (upd H p o) M := ⟨fun b u q _ => k1 b u q, fun b m => .inl m, nn⟩
  refine ⟨r.grow f (fun a m => ⟨?_, m⟩) (fun a z => nn a (r.zd a z)) (fun a m => nn a (r.md a m)) fun a m n => absurd m n, f, fun b u q n => ⟨k1 b u q, n⟩⟩
  exact upd_ne fun z => r.md a m (by rw [z]; exact h)
end
end Dn
end

section
set_option linter.all false
set_option autoImplicit false
set_option maxRecDepth 10000
/-! DnC: readings over data; operands. -/
namespace Dn
open PySem PySem.Spec PyProof.Rows L2

/-- the content of a changing object -/
def Cont (K : KB) (H : Hp) (A : AS) : D → HO → Prop
  | .lst xs, o => ∃ vs, o = .lst vs ∧ Rps K H A xs vs
  | .dct ks xs, o => ∃ kvs, o = .dK kvs ∧ kvs.map (·.1) = ks.map Sum.inl ∧ Rps K H A xs (kvs.map (·.2))
  | _, _ => False
/-- readable as d -/
def Rx (K : KB) (H : Hp) (A : AS) (d : D) (v : V) : Prop := Rp K H A d v ∨ ∃ a, v = .ref a ∧ Own K H A a d
def Out (K : KB) (A : AS) (H : Hp) (d : D) (v : V) (H' : Hp) : Prop :=
  (isBox d = false ∧ (∀ a o, H a = some o → H' a = some o) ∧ Rp K H' A d v) ∨ (isBox d = true ∧ ∃ p o, v = .ref p ∧ H p = none ∧ H' = upd H p o ∧ Cont K H A d o)
def RVal (K : KB) (Z : AS) (Γ : Env) (σ : L2.St) (H : Hp) (M : AS) (d : D) (fr : Bool) (v : V) : Prop :=
  if fr = true then ∃ a, v = .ref a ∧ M a ∧ Own K H (un M Z) a d ∧ Apart Γ σ a else Rp K H (un M Z) d v
def HVal (K : KB) (Z : AS) (σ : L2.St) (H : Hp) (M : AS) : Hd → V → Prop
  | .v d, v => Rp K H (un M Z) d v
  | .s i, v => σ[i]? = some (some v)
section
variable {K : KB} {Z A : AS} {Γ Γ' : Env} {σ : L2.St} {H H' : Hp} {M M' : AS} {d : D} {v : V}
theorem Cont.own {p : Addr} {o : HO} {A' : AS} (h : Cont K H A d o) (e : H' p = some o) (k : ∀ b u, H b = some u → ¬ A b → H' b = some u ∧ ¬ A' b) : Own K H' A' p d := by
  cases d with
  | lst xs => obtain ⟨vs, rfl, r⟩ := h; exact ⟨vs, e, Rps.mono k _ _ r⟩
  | dct ks xs => obtain ⟨vs, rfl, q, r⟩ := h; exact ⟨vs, e, q, Rps.mono k _ _ r⟩
  | _ => exact h.elim
theorem Rx.lst {xs : List D} (h : Rx K H A (.lst xs) v) : ∃ a vs, v = .ref a ∧ H a = some (.lst vs) ∧ Rps K H A xs vs := by
  rcases h with ⟨a, vs, e, _, q, r⟩ | ⟨a, e, vs, q, r⟩
  · exact ⟨a, vs, e, q, r⟩
  · exact ⟨a, vs, e, q, r⟩
theorem Rx.dct {ks : List Int} {xs : List D} (h : Rx K H A (.dct ks xs) v) : ∃ a kvs, v = .ref a ∧ H a = some (.dK kvs) ∧ kvs.map (·.1) = ks.map Sum.inl ∧ Rps K H A xs (kvs.map (·.2)) := by
  rcases h with ⟨a, vs, e, _, q, r⟩ | ⟨a, e, vs, q, r⟩
  · exact ⟨a, vs, e, q, r⟩
  · exact ⟨a, vs, e, q, r⟩
theorem Rx.rp (h : Rx K H A d v) (b : isBox d = false) : Rp K H A d v := by
  rcases h with h | ⟨a, _, h⟩
  · exact h
  · rw [h.box] at b; cases b
theorem Rx.dp (h : Rx K H A d v) {p : PyData} (e : toP d = some p) : Dp K.k H v p := by
  rcases h with h | ⟨a, rfl, h⟩
  · exact Rp.dp d v p h e
  · cases d with
    | lst xs =>
      obtain ⟨vs, q, r⟩ := h
      unfold toP at e
      obtain ⟨ps, e1, e2⟩ := Option.map_eq_some_iff.mp e
      subst e2
      exact .lst (.inl (.inl q)) (Rps.dp xs vs ps r e1)
    | dct ks xs => cases e
    | _ => exact h.elim
theorem fin (r : Rel K Z Γ σ H M) (o : Out K (un M Z) H d v H') : ∃ M', Rel K Z Γ σ H' M' ∧ Fr H M H' M' ∧ RVal K Z Γ σ H' M' d (isBox d) v := by
  rcases o with ⟨b, k, h⟩ | ⟨b, p, ob, rfl, hp, rfl, c⟩
  · have nn : ∀ a, H a ≠ none → H' a ≠ none := fun a q z => by
      cases e : H a with
      | none => exact q e
      | some u => rw [k a u e] at z; cases z
    have f : Fr H M H' M := ⟨fun a o e _ => k a o e, fun a m => .inl m, nn⟩
    refine ⟨M, r.grow f (fun a m => ⟨?_, m⟩) (fun a z => nn a (r.zd a z)) (fun a m => nn a (r.md a m)) fun a m n => absurd m n, f, ?_⟩
    · cases e : H a with
      | none => exact absurd e (r.md a m)
      | some u => exact k a u e
    · unfold RVal
      rw [if_neg (by rw [b]; exact Bool.false_ne_true)]
      exact h
  · obtain ⟨r1, f1, k1⟩ := r.new hp ob
    have nM : ¬ M p := fun m => r.md p m hp
    have nZ : ¬ Z p := fun m => r.zd p m hp
    have f : Fr H M (upd H p ob) (and1 M p) := ⟨f1.kp, fun a m => m.elim .inl fun z => by rw [z]; exact .inr hp, f1.dm⟩
    have md : ∀ a, and1 M p a → upd H p ob a ≠ none := fun a m => by
      rcases m with m | m
      · exact r1.md a m
      · rw [m, upd_same]; exact fun z => by cases z
    refine ⟨and1 M p, r.grow f (fun a m => ⟨?_, .inl m⟩) r1.zd md (fun a m n x q => ?_), f, ?_⟩
    · exact upd_ne fun z => nM (by rw [← z]; exact m)
    · rcases m with m | m
      · exact absurd m n
      · rw [m, upd_same]
        cases d with
        | lst xs => obtain ⟨vs, e, _⟩ := c; rw [e]; exact fun z => by cases z
        | dct ks xs => obtain ⟨vs, e, _⟩ := c; rw [e]; exact fun z => by cases z
        | _ => exact c.elim
    · unfold RVal
      rw [if_pos b]
      refine ⟨p, rfl, .inr rfl, c.own upd_same fun b u q n => ⟨(k1 b u q n).1, fun z => ?_⟩, apart_of_none r nM⟩
      rcases z with (z | z) | z
      · exact n (.inl z)
      · rw [z, hp] at q; cases q
      · exact n (.inr z)
theorem HVal.mono {h : Hd} (x : HVal K Z σ H M h v) (zm : ∀ a, Z a → ¬ M a) (f : Fr H M H' M') : HVal K Z σ H' M' h v := by
  cases h with
  | v d => exact Rp.mono (f.out zm) d v x
  | s i => exact x
theorem HVal.rx {h : Hd} (x : HVal K Z σ H M h v) (r : Rel K Z Γ σ H M) (e : h.get Γ = some d) : Rx K H (un M Z) d v := by
  cases h with
  | v d' => cases e; exact .inl x
  | s i =>
    have e : (Γ[i]?).bind Sl.get? = some d := e
    obtain ⟨s, e1, e2⟩ := Option.bind_eq_some_iff.mp e
    have q := r.sl i s e1
    have x : σ[i]? = some (some v) := x
    cases s with
    | no => cases e2
    | sh d' => cases e2; obtain ⟨w, e3, hp⟩ := q; rw [x] at e3; cases e3; exact .inl hp
    | ow d' => cases e2; obtain ⟨a, e3, m, ho⟩ := q; rw [x] at e3; cases e3; exact .inr ⟨a, rfl, ho⟩
    | bo d' => cases e2; obtain ⟨a, e3, m, ho⟩ := q; rw [x] at e3; cases e3; exact .inr ⟨a, rfl, ho⟩
end

/-! ### readings -/
def tE (K : KB) (f : Env → Res (D × Bool)) : TE := fun σ H Q => ∃ Z M Γ, Rel K Z Γ σ H M ∧ ∃ r Γ', f Γ = .ok r Γ' ∧
  ∀ v H' M', Rel K Z Γ' σ H' M' → Fr H M H' M' → RVal K Z Γ' σ H' M' r.1 r.2 v → Q v H'
def tP (K : KB) (f : Env → Res Hd) : TE := fun σ H Q => ∃ Z M Γ, Rel K Z Γ σ H M ∧ ∃ h Γ', f Γ = .ok h Γ' ∧
  ∀ v H' M', Rel K Z Γ' σ H' M' → Fr H M H' M' → HVal K Z σ H' M' h v → Q v H'
def tT (K : KB) (f : Env → Res Bool) : TT := fun σ H Q => ∃ Z M Γ, Rel K Z Γ σ H M ∧ ∃ b Γ', f Γ = .ok b Γ' ∧
  ∀ H' M', Rel K Z Γ' σ H' M' → Fr H M H' M' → Q b H'
def tO (K : KB) (f : Env → Res (Option Int)) : TO := fun σ H Q => ∃ Z M Γ, Rel K Z Γ σ H M ∧ ∃ b Γ', f Γ = .ok b Γ' ∧
  ∀ H' M', Rel K Z Γ' σ H' M' → Fr H M H' M' → Q b H'
theorem PE.le {X : Cx} {e : Expr} {t t' : TE} (h : PE X e t') (k : ∀ σ H Q, t σ H Q → t' σ H Q) : PE X e t := ⟨fun pins s σ H Q I q => h.run pins s σ H Q I (k σ H Q q)⟩
theorem PT.le {X : Cx} {e : Expr} {t t' : TT} (h : PT X e t') (k : ∀ σ H Q, t σ H Q → t' σ H Q) : PT X e t := ⟨fun pins s σ H Q I q => h.run pins s σ H Q I (k σ H Q q)⟩
theorem PW.le {X : Cx} {e : Expr} {t t' : TT} (h : PW X e t') (k : ∀ σ H Q, t σ H Q → t' σ H Q) : PW X e t := ⟨fun w pins s σ H Q I q => h.run w pins s σ H Q I (k σ H Q q)⟩
theorem PO.le {X : Cx} {e : Option Expr} {t t' : TO} (h : PO X e t') (k : ∀ σ H Q, t σ H Q → t' σ H Q) : PO X e t := ⟨fun pins s σ H Q I q => h.run pins s σ H Q I (k σ H Q q)⟩
theorem PS.le {X : Cx} {e : Stmt} {t t' : TS} (h : PS X e t') (k : ∀ D σ H, t D σ H → t' D σ H) : PS X e t := ⟨fun pins s σ H D I q => h.run pins s σ H D I (k D σ H q)⟩
theorem PSs.le {X : Cx} {e : List Stmt} {t t' : TS} (h : PSs X e t') (k : ∀ D σ H, t D σ H → t' D σ H) : PSs X e t := ⟨fun pins s σ H D I q => h.run pins s σ H D I (k D σ H q)⟩

theorem Res.bind_ok {α β : Type} {x : Res α} {f : α → Env → Res β} {b : β} {Γ : Env} (h : x.bind f = .ok b Γ) : ∃ a Γ1, x = .ok a Γ1 ∧ f a Γ1 = .ok b Γ := by
  cases x with
  | ok a Γ1 => exact ⟨a, Γ1, rfl, h⟩
  | no => cases h
theorem liftO_ok {α : Type} {o : Option α} {Γ Γ' : Env} {a : α} (h : liftO o Γ = .ok a Γ') : o = some a ∧ Γ' = Γ := by
  cases o with
  | none => cases h
  | some b => cases h; exact ⟨rfl, rfl⟩

/-- two operands, then an operation on data -/
def rD1 (K : KB) (f : D → Option D) : V → Hp → VK → Prop := fun x H Q => ∃ A d r, (∀ a, H a = none → ¬ A a) ∧ Rx K H A d x ∧ f d = some r ∧ ∀ v H', Out K A H r v H' → Q v H'
def rD2 (K : KB) (f : D → D → Option D) : R2 := fun x y H Q => ∃ A d e r, (∀ a, H a = none → ¬ A a) ∧ Rx K H A d x ∧ Rx K H A e y ∧ f d e = some r ∧ ∀ v H', Out K A H r v H' → Q v H'
section
variable {K : KB} {fa fb fc : Env → Res Hd} {f : D → D → Option D} {g : D → Option D}
theorem le2 : ∀ σ H Q, tE K (fun Γ => (fa Γ).bind fun x Γ1 => (fb Γ1).bind fun y Γ2 => match x.get Γ2, y.get Γ2 with
    | some d, some e => (liftO (f d e) Γ2).bind fun r Γ3 => .ok (r, isBox r) Γ3
    | _, _ => .no) σ H Q → tOp (rD2 K f) (tP K fa) (tP K fb) σ H Q := by
  rintro σ H Q ⟨Z, M, Γ, r, ⟨w, fr⟩, Γ', e, q⟩
  obtain ⟨hx, Γ1, e1, e⟩ := Res.bind_ok e
  refine ⟨Z, M, Γ, r, hx, Γ1, e1, fun x H1 M1 r1 f1 v1 => ?_⟩
  obtain ⟨hy, Γ2, e2, e⟩ := Res.bind_ok e
  refine ⟨Z, M1, Γ1, r1, hy, Γ2, e2, fun y H2 M2 r2 f2 v2 => ?_⟩
  have v1' := v1.mono r1.zm f2
  cases ex : hx.get Γ2 with
  | none => rw [ex] at e; cases e
  | some d =>
    cases ey : hy.get Γ2 with
    | none => rw [ex, ey] at e; cases e
    | some e' =>
      rw [ex, ey] at e
      obtain ⟨z, Γ3, e3, e4⟩ := Res.bind_ok e
      obtain ⟨e5, rfl⟩ := liftO_ok e3
      cases e4
      refine ⟨un M2 Z, d, e', _, fun a h => r2.dom h, v1'.rx r2 ex, v2.rx r2 ey, e5, fun v H' o => ?_⟩
      obtain ⟨M', r3, f3, rv⟩ := fin r2 o
      exact q v H' M' r3 (f1.trans (f2.trans f3)) rv
theorem le1 : ∀ σ H Q, tE K (fun Γ => (fa Γ).bind fun x Γ1 => match x.get Γ1 with
    | some d => (liftO (g d) Γ1).bind fun r Γ2 => .ok (r, isBox r) Γ2
    | _ => .no) σ H Q → tUn (rD1 K g) (tP K fa) σ H Q := by
  rintro σ H Q ⟨Z, M, Γ, r, ⟨w, fr⟩, Γ', e, q⟩
  obtain ⟨hx, Γ1, e1, e⟩ := Res.bind_ok e
  refine ⟨Z, M, Γ, r, hx, Γ1, e1, fun x H1 M1 r1 f1 v1 => ?_⟩
  cases ex : hx.get Γ1 with
  | none => rw [ex] at e; cases e
  | some d =>
    rw [ex] at e
    obtain ⟨z, Γ3, e3, e4⟩ := Res.bind_ok e
    obtain ⟨e5, rfl⟩ := liftO_ok e3
    cases e4
    refine ⟨un M1 Z, d, _, fun a h => r1.dom h, v1.rx r1 ex, e5, fun v H' o => ?_⟩
    obtain ⟨M', r3, f3, rv⟩ := fin r1 o
    exact q v H' M' r3 (f1.trans f3) rv
end
/-- two operands, then a shared value -/
def rD2s (K : KB) (f : D → D → Option D) : R2 := fun x y H Q => ∃ A d e r, Rx K H A d x ∧ Rx K H A e y ∧ f d e = some r ∧ ∀ v, Rp K H A r v → Q v H
theorem le2s {K : KB} {fa fb : Env → Res Hd} {f : D → D → Option D} : ∀ σ H Q, tE K (fun Γ => (fa Γ).bind fun x Γ1 => (fb Γ1).bind fun y Γ2 => match x.get Γ2, y.get Γ2 with
    | some d, some e => (liftO (f d e) Γ2).bind fun r Γ3 => .ok (r, false) Γ3
    | _, _ => .no) σ H Q → tOp (rD2s K f) (tP K fa) (tP K fb) σ H Q := by
  rintro σ H Q ⟨Z, M, Γ, r, ⟨w, fr⟩, Γ', e, q⟩
  obtain ⟨hx, Γ1, e1, e⟩ := Res.bind_ok e
  refine ⟨Z, M, Γ, r, hx, Γ1, e1, fun x H1 M1 r1 f1 v1 => ?_⟩
  obtain ⟨hy, Γ2, e2, e⟩ := Res.bind_ok e
  refine ⟨Z, M1, Γ1, r1, hy, Γ2, e2, fun y H2 M2 r2 f2 v2 => ?_⟩
  have v1' := v1.mono r1.zm f2
  cases ex : hx.get Γ2 with
  | none => rw [ex] at e; cases e
  | some d =>
    cases ey : hy.get Γ2 with
    | none => rw [ex, ey] at e; cases e
    | some e' =>
      rw [ex, ey] at e
      obtain ⟨z, Γ3, e3, e4⟩ := Res.bind_ok e
      obtain ⟨e5, rfl⟩ := liftO_ok e3
      cases e4
      exact ⟨un M2 Z, d, e', _, v1'.rx r2 ex, v2.rx r2 ey, e5, fun v o => q v H2 M2 r2 (f1.trans f2) o⟩
/-- f d, a value that is no object of its own -/
theorem tE.cast {K : KB} {f g : Env → Res (D × Bool)} (h : ∀ Γ r Γ', f Γ = .ok r Γ' → g Γ = .ok r Γ') : ∀ σ H Q, tE K f σ H Q → tE K g σ H Q := by
  rintro σ H Q ⟨Z, M, Γ, r, z, Γ', e, q⟩
  exact ⟨Z, M, Γ, r, z, Γ', h _ _ _ e, q⟩

section
variable {X : Cx} {C : Cl} {cf : CallF} {e : Expr}
/-- a name, left as it is -/
theorem p_pek {i : Nat} (h : PE X e (tVar i)) : PE X e (tP (kb X C) (evP cf (.pek i))) := by
  refine PE.le h ?_
  rintro σ H Q ⟨Z, M, Γ, r, hd, Γ', e, q⟩
  unfold evP at e
  cases ea : getA Γ i with
  | none => rw [ea] at e; cases e
  | some d =>
    rw [ea] at e
    cases e
    obtain ⟨s, e1, e2⟩ := Option.bind_eq_some_iff.mp ea
    have z := r.sl i s e1
    cases s with
    | no => cases e2
    | sh d' => obtain ⟨w, e3, hp⟩ := z; exact ⟨w, e3, q w H M r Fr.refl e3⟩
    | ow d' => obtain ⟨a, e3, _⟩ := z; exact ⟨_, e3, q _ H M r Fr.refl e3⟩
    | bo d' => obtain ⟨a, e3, _⟩ := z; exact ⟨_, e3, q _ H M r Fr.refl e3⟩
/-- a name, from now on shared -/
theorem e_var {i : Nat} (h : PE X e (tVar i)) : PE X e (tE (kb X C) (evE cf (.var i))) := by
  refine PE.le h ?_
  rintro σ H Q ⟨Z, M, Γ, r, z, Γ', e, q⟩
  unfold evE at e
  split at e
  · rename_i d es
    cases e
    obtain ⟨w, e3, hp⟩ := r.sl i _ es
    exact ⟨w, e3, q w H M r Fr.refl hp⟩
  · rename_i d es
    cases e
    obtain ⟨a, e3, m, o, r', hp⟩ := r.freeze es
    exact ⟨_, e3, q _ H _ r' Fr.no1 hp⟩
  · cases e
theorem RVal.frozen {K : KB} {Z : AS} {Γ : Env} {σ : L2.St} {H : Hp} {M : AS} {d : D} {fr : Bool} {v : V} (r : Rel K Z Γ σ H M) (h : RVal K Z Γ σ H M d fr v) :
    ∃ M', Rel K Z Γ σ H M' ∧ Fr H M H M' ∧ Rp K H (un M' Z) d v := by
  unfold RVal at h
  cases fr with
  | false => rw [if_neg Bool.false_ne_true] at h; exact ⟨M, r, Fr.refl, h⟩
  | true =>
    rw [if_pos rfl] at h
    obtain ⟨a, rfl, m, o, ap⟩ := h
    obtain ⟨r', hp⟩ := r.thaw m ap o
    exact ⟨_, r', Fr.no1, hp⟩
/-- a value, shared from now on -/
theorem p_e {a : E} (h : PE X e (tE (kb X C) (evE cf a))) : PE X e (tP (kb X C) (evP cf (.e a))) := by
  refine PE.le h ?_
  rintro σ H Q ⟨Z, M, Γ, r, z, Γ', e, q⟩
  unfold evP at e
  obtain ⟨x, Γ1, e1, e2⟩ := Res.bind_ok e
  cases e2
  refine ⟨Z, M, Γ, r, x, _, e1, fun v H' M' r' f' rv => ?_⟩
  obtain ⟨M2, r2, f2, hp⟩ := rv.frozen r'
  exact q v H' M2 r2 (f'.trans f2) hp
theorem e_cst {d : D} {v : V} (h : PE X e (tC v)) (hr : ∀ H A, Rp (kb X C) H A d v) : PE X e (tE (kb X C) (evE cf (.cst d))) := by
  refine PE.le h ?_
  rintro σ H Q ⟨Z, M, Γ, r, z, Γ', e, q⟩
  cases e
  exact q v H M r Fr.refl (hr H _)
variable {pos : Pos}
theorem e_int {i : Int} {j : Nat} : PE X (.Constant (.int i) j pos) (tE (kb X C) (evE cf (.cst (.int i)))) := e_cst pe_int fun _ _ => rfl
theorem e_bl {i : Bool} {j : Nat} : PE X (.Constant (.bool i) j pos) (tE (kb X C) (evE cf (.cst (.bl i)))) := e_cst pe_bl fun _ _ => rfl
theorem e_non {j : Nat} : PE X (.Constant .none j pos) (tE (kb X C) (evE cf (.cst .non))) := e_cst pe_non fun _ _ => rfl
theorem e_str {x : Str} {j : Nat} : PE X (.Constant (.str x) j pos) (tE (kb X C) (evE cf (.cst (.str x)))) := e_cst pe_str fun _ _ => rfl
/-- a test that is a value's truth -/
def rTru (K : KB) : V → Hp → (Bool → Hp → Prop) → Prop := fun x H Q => ∃ A d b, Rx K H A d x ∧ truD d = some b ∧ Q b H
theorem Rx.tru {K : KB} {H : Hp} {A : AS} {d : D} {x : V} {b : Bool} (h : Rx K H A d x) (e : truD d = some b) : TruV K.k x H b := by
  cases d with
  | non => obtain rfl : x = .non := h.rp rfl; cases e; rfl
  | bl c => obtain rfl : x = .bl c := h.rp rfl; cases e; rfl
  | int i => obtain rfl : x = .int i := h.rp rfl; cases e; rfl
  | tup xs =>
    obtain ⟨a, vs, rfl, r, hp⟩ := h.rp rfl
    cases e
    refine .inr (.inl ⟨vs, r.sq, ?_⟩)
    have := hp.len
    cases xs <;> cases vs <;> first | rfl | cases this
  | lst xs =>
    obtain ⟨a, vs, rfl, r, hp⟩ := h.lst
    cases e
    refine .inl ⟨vs, .inl (.inl r), ?_⟩
    have := hp.len
    cases xs <;> cases vs <;> first | rfl | cases this
  | _ => cases e
theorem t_val {a : P} (h : PE X e (tP (kb X C) (evP cf a))) (he : ∀ whole, isTrue e X.env whole = (do let v ← whole; standAt e.pos; holding [v] (truthy v))) : PT X e (tT (kb X C) (evT cf (.val a))) := by
  refine PT.le (pt_truth h he) ?_
  rintro σ H Q ⟨Z, M, Γ, r, b, Γ', e, q⟩
  unfold evT at e
  obtain ⟨x, Γ1, e1, e2⟩ := Res.bind_ok e
  refine ⟨Z, M, Γ, r, x, _, e1, fun v H' M' r' f' hv => ?_⟩
  cases ex : x.get Γ1 with
  | none => rw [ex] at e2; cases e2
  | some d =>
    rw [ex] at e2
    obtain ⟨e3, rfl⟩ := liftO_ok e2
    exact ⟨b, (hv.rx r' ex).tru e3, q H' M' r' f'⟩
theorem w_one {o : BoolOp} {a : Expr} {ta : T} (ha : PT X a (tT (kb X C) (evT cf ta))) : PW X (.BoolOp o [a] pos) (tT (kb X C) (evT cf ta)) := by
  cases o with
  | And => exact pw_and1 ha
  | Or => exact pw_or1 ha
theorem w_and {a b : Expr} {rest : List Expr} {ta tb : T} (ha : PT X a (tT (kb X C) (evT cf ta))) (hb : PW X (.BoolOp .And (b :: rest) pos) (tT (kb X C) (evT cf tb))) : PW X (.BoolOp .And (a :: b :: rest) pos) (tT (kb X C) (evT cf (.and_ ta tb))) := by
  refine PW.le (pw_and ha hb) ?_
  rintro σ H Q ⟨Z, M, Γ, r, c, Γ', e, q⟩
  unfold evT at e
  obtain ⟨x, Γ1, e1, e2⟩ := Res.bind_ok e
  refine ⟨Z, M, Γ, r, x, Γ1, e1, fun H' M' r' f' => ?_⟩
  cases x with
  | true => rw [if_pos rfl] at e2 ⊢; exact ⟨Z, M', Γ1, r', c, Γ', e2, fun H2 M2 r2 f2 => q H2 M2 r2 (f'.trans f2)⟩
  | false => rw [if_neg Bool.false_ne_true] at e2 ⊢; cases e2; exact q H' M' r' f'
theorem w_or {a b : Expr} {rest : List Expr} {ta tb : T} (ha : PT X a (tT (kb X C) (evT cf ta))) (hb : PW X (.BoolOp .Or (b :: rest) pos) (tT (kb X C) (evT cf tb))) : PW X (.BoolOp .Or (a :: b :: rest) pos) (tT (kb X C) (evT cf (.or_ ta tb))) := by
  refine PW.le (pw_or ha hb) ?_
  rintro σ H Q ⟨Z, M, Γ, r, c, Γ', e, q⟩
  unfold evT at e
  obtain ⟨x, Γ1, e1, e2⟩ := Res.bind_ok e
  refine ⟨Z, M, Γ, r, x, Γ1, e1, fun H' M' r' f' => ?_⟩
  cases x with
  | false => rw [if_neg Bool.false_ne_true] at e2 ⊢; exact ⟨Z, M', Γ1, r', c, Γ', e2, fun H2 M2 r2 f2 => q H2 M2 r2 (f'.trans f2)⟩
  | true => rw [if_pos rfl] at e2 ⊢; cases e2; exact q H' M' r' f'
theorem t_bop {o : BoolOp} {es : List Expr} {t : T} (h : PW X (.BoolOp o es pos) (tT (kb X C) (evT cf t))) : PT X (.BoolOp o es pos) (tT (kb X C) (evT cf t)) := h.pt
theorem t_not {a : Expr} {ta : T} (ha : PT X a (tT (kb X C) (evT cf ta))) : PT X (.UnaryOp .Not a pos) (tT (kb X C) (evT cf (.not_ ta))) := by
  refine PT.le (pt_not ha) ?_
  rintro σ H Q ⟨Z, M, Γ, r, c, Γ', e, q⟩
  unfold evT at e
  obtain ⟨x, Γ1, e1, e2⟩ := Res.bind_ok e
  cases e2
  exact ⟨Z, M, Γ, r, x, _, e1, fun H' M' r' f' => q H' M' r' f'⟩
/-! ### expressions -/
theorem e_one {o : BoolOp} {a : Expr} {ea : E} (h : PE X a (tE (kb X C) (evE cf ea))) : PE X (.BoolOp o [a] pos) (tE (kb X C) (evE cf ea)) := pe_one h
theorem e_and {a b : Expr} {rest : List Expr} {pa : P} {eb : E} (ha : PE X a (tP (kb X C) (evP cf pa))) (hb : PE X (.BoolOp .And (b :: rest) pos) (tE (kb X C) (evE cf eb))) : PE X (.BoolOp .And (a :: b :: rest) pos) (tE (kb X C) (evE cf (.andE pa eb))) := by
  refine PE.le (pe_and ha hb) ?_
  rintro σ H Q ⟨Z, M, Γ, r, c, Γ', e, q⟩
  unfold evE at e
  obtain ⟨x, Γ1, e1, e2⟩ := Res.bind_ok e
  refine ⟨Z, M, Γ, r, x, Γ1, e1, fun v H' M' r' f' hv => ?_⟩
  split at e2
  · rename_i ex
    obtain rfl : v = .bl true := (hv.rx r' ex).rp rfl
    refine ⟨true, rfl, ?_⟩
    rw [if_pos rfl]
    exact ⟨Z, M', Γ1, r', c, Γ', e2, fun v2 H2 M2 r2 f2 rv => q v2 H2 M2 r2 (f'.trans f2) rv⟩
  · rename_i ex
    obtain rfl : v = .bl false := (hv.rx r' ex).rp rfl
    refine ⟨false, rfl, ?_⟩
    rw [if_neg Bool.false_ne_true]
    cases e2
    exact q _ H' M' r' f' rfl
  · cases e2
theorem e_or {a b : Expr} {rest : List Expr} {pa : P} {eb : E} (ha : PE X a (tP (kb X C) (evP cf pa))) (hb : PE X (.BoolOp .Or (b :: rest) pos) (tE (kb X C) (evE cf eb))) : PE X (.BoolOp .Or (a :: b :: rest) pos) (tE (kb X C) (evE cf (.orE pa eb))) := by
  refine PE.le (pe_or ha hb) ?_
  rintro σ H Q ⟨Z, M, Γ, r, c, Γ', e, q⟩
  unfold evE at e
  obtain ⟨x, Γ1, e1, e2⟩ := Res.bind_ok e
  refine ⟨Z, M, Γ, r, x, Γ1, e1, fun v H' M' r' f' hv => ?_⟩
  split at e2
  · rename_i ex
    obtain rfl : v = .bl false := (hv.rx r' ex).rp rfl
    refine ⟨false, rfl, ?_⟩
    rw [if_neg Bool.false_ne_true]
    exact ⟨Z, M', Γ1, r', c, Γ', e2, fun v2 H2 M2 r2 f2 rv => q v2 H2 M2 r2 (f'.trans f2) rv⟩
  · rename_i ex
    obtain rfl : v = .bl true := (hv.rx r' ex).rp rfl
    refine ⟨true, rfl, ?_⟩
    rw [if_pos rfl]
    cases e2
    exact q _ H' M' r' f' rfl
  · cases e2
theorem e_not {a : Expr} {pa : P} (ha : PE X a (tP (kb X C) (evP cf pa))) : PE X (.UnaryOp .Not a pos) (tE (kb X C) (evE cf (.notE pa))) := by
  refine PE.le (pe_not ha) ?_
  rintro σ H Q ⟨Z, M, Γ, r, c, Γ', e, q⟩
  unfold evE at e
  obtain ⟨x, Γ1, e1, e2⟩ := Res.bind_ok e
  refine ⟨Z, M, Γ, r, x, Γ1, e1, fun v H' M' r' f' hv => ?_⟩
  split at e2
  · rename_i b ex
    obtain rfl : v = .bl b := (hv.rx r' ex).rp rfl
    cases e2
    exact ⟨b, rfl, q _ H' M' r' f' rfl⟩
  · cases e2
theorem e_neg {a : Expr} {pa : P} (ha : PE X a (tP (kb X C) (evP cf pa))) : PE X (.UnaryOp .USub a pos) (tE (kb X C) (evE cf (.neg pa))) := by
  refine PE.le (pe_un un_neg ha) ?_
  rintro σ H Q ⟨Z, M, Γ, r, c, Γ', e, q⟩
  unfold evE at e
  obtain ⟨x, Γ1, e1, e2⟩ := Res.bind_ok e
  refine ⟨Z, M, Γ, r, x, Γ1, e1, fun v H' M' r' f' hv => ?_⟩
  split at e2
  · rename_i b ex
    obtain rfl : v = .int b := (hv.rx r' ex).rp rfl
    cases e2
    exact ⟨b, rfl, q _ H' M' r' f' rfl⟩
  · cases e2
theorem e_ite {c a b : Expr} {t : T} {ea eb : E} (hc : PT X c (tT (kb X C) (evT cf t))) (ha : PE X a (tE (kb X C) (evE cf ea))) (hb : PE X b (tE (kb X C) (evE cf eb))) : PE X (.IfExp c a b pos) (tE (kb X C) (evE cf (.ite t ea eb))) := by
  refine PE.le (pe_ifExp hc ha hb) ?_
  rintro σ H Q ⟨Z, M, Γ, r, c, Γ', e, q⟩
  unfold evE at e
  obtain ⟨x, Γ1, e1, e2⟩ := Res.bind_ok e
  refine ⟨Z, M, Γ, r, x, Γ1, e1, fun H' M' r' f' => ?_⟩
  cases x with
  | true => rw [if_pos rfl] at e2 ⊢; exact ⟨Z, M', Γ1, r', c, Γ', e2, fun v2 H2 M2 r2 f2 rv => q v2 H2 M2 r2 (f'.trans f2) rv⟩
  | false => rw [if_neg Bool.false_ne_true] at e2 ⊢; exact ⟨Z, M', Γ1, r', c, Γ', e2, fun v2 H2 M2 r2 f2 rv => q v2 H2 M2 r2 (f'.trans f2) rv⟩
/-! ### displays -/
/-- items, all shared -/
def tEs (K : KB) (f : Env → Res (List (D × Bool))) : TA := fun σ H Q => ∃ Z M Γ, Rel K Z Γ σ H M ∧ ∃ l Γ', f Γ = .ok l Γ' ∧
  ∀ vs H' M', Rel K Z Γ' σ H' M' → Fr H M H' M' → Rps K H' (un M' Z) (l.map (·.1)) vs → Q vs H'
theorem PA.le {es : List Expr} {t t' : TA} (h : PA X es t') (k : ∀ σ H Q, t σ H Q → t' σ H Q) : PA X es t := ⟨fun pos pins s σ H Q I q => h.run pos pins s σ H Q I (k σ H Q q)⟩
theorem es_nil : PA X [] (tEs (kb X C) (evEs cf .nil)) := by
  refine PA.le pa_nil ?_
  rintro σ H Q ⟨Z, M, Γ, r, l, Γ', e, q⟩
  cases e
  exact q [] H M r Fr.refl rfl
def noStar : Expr → Bool
  | .Starred _ _ => false
  | _ => true
theorem star1 {a : Expr} {es : List Expr} {env : PySem.Env} (h : noStar a = true) : starEach (a :: es) env = (false, eval a env) :: starEach es env := by
  cases a <;> first | rfl | cases h
theorem es_cons {a : Expr} {es : List Expr} {ea : E} {r : Es} (ha : PE X a (tE (kb X C) (evE cf ea))) (hr : PA X es (tEs (kb X C) (evEs cf r))) (hs : noStar a = true := by rfl) : PA X (a :: es) (tEs (kb X C) (evEs cf (.cons ea r))) := by
  refine PA.le (pa_cons ha hr (star1 hs)) ?_
  rintro σ H Q ⟨Z, M, Γ, r, l, Γ', e, q⟩
  unfold evEs at e
  obtain ⟨x, Γ1, e1, e2⟩ := Res.bind_ok e
  obtain ⟨l', Γ2, e3, e4⟩ := Res.bind_ok e2
  cases e4
  refine ⟨Z, M, Γ, r, x, Γ1, e1, fun v H1 M1 r1 f1 rv => ?_⟩
  obtain ⟨M1', r1', f1', hp⟩ := rv.frozen r1
  refine ⟨Z, M1', Γ1, r1', l', _, e3, fun vs H2 M2 r2 f2 hps => ?_⟩
  exact q (v :: vs) H2 M2 r2 ((f1.trans f1').trans f2) ⟨v, vs, rfl, Rp.mono (f2.out r1'.zm) _ _ hp, hps⟩
theorem len_ok {n : Nat} (h : okLen n = true) : n < sizeLine ∧ n ≤ sizeLine := by
  have := Nat.le_of_ble_eq_true h
  have h2 : sizeLine = 16777216 := sizeLine_eq
  omega
theorem e_tup {es : List Expr} {k : Nat} {r : Es} (h : PA X es (tEs (kb X C) (evEs cf r))) : PE X (.Tuple es k pos) (tE (kb X C) (evE cf (.tup r))) := by
  refine PE.le (pe_tup h) ?_
  rintro σ H Q ⟨Z, M, Γ, r, c, Γ', e, q⟩
  unfold evE at e
  obtain ⟨x, Γ1, e1, e2⟩ := Res.bind_ok e
  refine ⟨Z, M, Γ, r, x, Γ1, e1, fun vs H' M' r' f' hps => ?_⟩
  split at e2
  · rename_i hl
    cases e2
    have hlen : (x.map (·.1)).length = vs.length := hps.len
    rw [List.length_map] at hlen
    refine ⟨by rw [← hlen]; exact (len_ok hl).2, fun p hp => ?_⟩
    obtain ⟨r2, f2, k2⟩ := r'.new hp (.tup vs)
    refine q (.ref p) _ M' r2 (f'.trans f2) ⟨p, vs, rfl, .inl ⟨r'.dom hp, upd_same⟩, Rps.mono k2 _ _ hps⟩
  · cases e2
theorem e_lst {es : List Expr} {r : Es} (h : PA X es (tEs (kb X C) (evEs cf r))) : PE X (.List es pos) (tE (kb X C) (evE cf (.lst r))) := by
  refine PE.le (pe_lst h) ?_
  rintro σ H Q ⟨Z, M, Γ, r, c, Γ', e, q⟩
  unfold evE at e
  obtain ⟨x, Γ1, e1, e2⟩ := Res.bind_ok e
  refine ⟨Z, M, Γ, r, x, Γ1, e1, fun vs H' M' r' f' hps => ?_⟩
  split at e2
  · rename_i hl
    cases e2
    have hlen : (x.map (·.1)).length = vs.length := hps.len
    rw [List.length_map] at hlen
    refine ⟨by rw [← hlen]; exact (len_ok hl).2, fun p hp => ?_⟩
    obtain ⟨M2, r2, f2, rv⟩ := fin r' (.inr ⟨rfl, p, .lst vs, rfl, hp, rfl, vs, rfl, hps⟩ : Out (kb X C) (un M' Z) H' (.lst (x.map (·.1))) (.ref p) (upd H' p (.lst vs)))
    exact q (.ref p) _ M2 r2 (f'.trans f2) rv
  · cases e2
end
end Dn
end

section
set_option linter.all false
set_option autoImplicit false
set_option maxRecDepth 10000
/-! DnD: the operations on data are the machine's. -/
namespace Dn
open PySem PySem.Spec PyProof.Rows L2

def bopO : Bop → Operator
  | .add => .Add
  | .sub => .Sub
  | .mul => .Mult
  | .fdiv => .FloorDiv
  | .mod => .Mod
  | .pow => .Pow
def copO : Cop → CmpOp
  | .eq => .Eq
  | .ne => .NotEq
  | .lt => .Lt
  | .le => .LtE
  | .gt => .Gt
  | .ge => .GtE
  | .is_ => .Is
  | .isnot => .IsNot
  | .in_ => .In
  | .notin => .NotIn
section
variable {K : KB} {H H' : Hp} {A : AS} {d : D} {v : V}
theorem Out.same (b : isBox d = false) (h : Rp K H A d v) : Out K A H d v H := .inl ⟨b, fun _ _ e => e, h⟩
theorem Out.tup {p : Addr} {xs : List D} {vs : List V} (dom : ∀ a, H a = none → ¬ A a) (hp : H p = none) (h : Rps K H A xs vs) : Out K A H (.tup xs) (.ref p) (upd H p (.tup vs)) := by
  have k : ∀ a o, H a = some o → upd H p (.tup vs) a = some o := fun a o e => by rw [upd_ne (ne_of_none e hp)]; exact e
  exact .inl ⟨rfl, k, p, vs, rfl, .inl ⟨dom p hp, upd_same⟩, Rps.mono (fun a o e n => ⟨k a o e, n⟩) _ _ h⟩
theorem Out.lst {p : Addr} {xs : List D} {vs : List V} (hp : H p = none) (h : Rps K H A xs vs) : Out K A H (.lst xs) (.ref p) (upd H p (.lst vs)) := .inr ⟨rfl, p, _, rfl, hp, rfl, vs, rfl, h⟩
end
theorem OpR.le {X : Cx} {f : Value → Value → Sem Value} {r r' : R2} (h : OpR X f r') (k : ∀ x y H Q, r x y H Q → r' x y H Q) : OpR X f r := fun pins s σ H x y v u Q I rx ry q => h pins s σ H x y v u Q I rx ry (k x y H Q q)
theorem IxR.le {X : Cx} {r r' : R2} (h : IxR X r') (k : ∀ x y H Q, r x y H Q → r' x y H Q) : IxR X r := fun a b pins s σ H x y v u Q I rx ry q => h a b pins s σ H x y v u Q I rx ry (k x y H Q q)
theorem CallR.le {X : Cx} {f : Value} {r r' : List V → Hp → VK → Prop} (h : CallR X f r') (k : ∀ xs H Q, r xs H Q → r' xs H Q) : CallR X f r := fun pins s σ H xs us Q I rv q => h pins s σ H xs us Q I rv (k xs H Q q)
theorem SlR.le {X : Cx} {r r' : V → Option Int → Option Int → Hp → VK → Prop} (h : SlR X r') (k : ∀ x lo hi H Q, r x lo hi H Q → r' x lo hi H Q) : SlR X r := fun pins s σ H x v vl vu lo hi sl Q I rx a b c q => h pins s σ H x v vl vu lo hi sl Q I rx a b c (k x lo hi H Q q)
section
variable {X : Cx} {C : Cl}
/-- powers that fit -/
theorem op_powB {X : Cx} : OpR X (binaryOp .Pow) (rI (fun i j => 0 ≤ j ∧ (i.natAbs.log2 + 1) * j.toNat ≤ 134217728) fun i j => .int (i ^ j.toNat)) := opI fun i j t u s Q E hc q => by
  refine PyProof.Rows.pow_int hc.1 ?_ q
  have h1 : Builtin.Int.intBits i ≤ i.natAbs.log2 + 1 := by
    unfold Builtin.Int.intBits
    split <;> omega
  have h2 : Builtin.Int.intBits i * j.toNat ≤ 134217728 := Nat.le_trans (Nat.mul_le_mul_right _ h1) hc.2
  have h3 : ((Builtin.Int.intBits i * j.toNat : Nat) : Int) ≤ 2 ^ 27 := by omega
  rw [Int.natCast_mul, Int.toNat_of_nonneg hc.1] at h3
  exact h3
theorem op_bop : ∀ o : Bop, OpR X (binaryOp (bopO o)) (rD2 (kb X C) (bopD o))
  | .add => by
    refine OpR.le (OpR.or op_add (OpR.or op_catA op_cat)) ?_
    rintro x y H Q ⟨A, d, e, r, dom, hx, hy, hf, q⟩
    unfold bopD at hf
    split at hf
    · rename_i i j _
      cases hf
      exact .inl ⟨i, j, hx.rp rfl, hy.rp rfl, q _ H (.same rfl rfl)⟩
    · rename_i xs ys _
      split at hf
      · rename_i hl
        cases hf
        obtain ⟨a, vs, rfl, ra, ha⟩ := hx.rp rfl
        obtain ⟨b, ws, rfl, rb, hb⟩ := hy.rp rfl
        have e1 := ha.len
        have e2 := hb.len
        refine .inr (.inl ⟨a, b, vs, ws, rfl, rfl, ra.sq, rb.sq, by rw [← e1, ← e2]; exact (len_ok hl).2, fun z => ?_, fun _ z => ?_, fun _ _ p hp => q _ _ (.tup dom hp (ha.app hb))⟩)
        · have hx0 : xs = [] := List.length_eq_zero_iff.mp (by rw [e1, z]; rfl)
          exact q _ H (.same rfl ⟨b, ws, rfl, rb, by rw [hx0]; exact hb⟩)
        · have hy0 : ys = [] := List.length_eq_zero_iff.mp (by rw [e2, z]; rfl)
          exact q _ H (.same rfl ⟨a, vs, rfl, ra, by rw [hy0, List.append_nil]; exact ha⟩)
      · cases hf
    · rename_i xs ys _
      split at hf
      · rename_i hl
        cases hf
        obtain ⟨a, vs, rfl, ra, ha⟩ := hx.lst
        obtain ⟨b, ws, rfl, rb, hb⟩ := hy.lst
        have e1 := ha.len
        have e2 := hb.len
        exact .inr (.inr ⟨a, b, vs, ws, rfl, rfl, ra, rb, by rw [← e1, ← e2]; exact (len_ok hl).2, fun p hp => q _ _ (.lst hp (ha.app hb))⟩)
      · cases hf
    all_goals (first | (rename_i z; cases z) | cases hf)
  | .sub => by
    refine OpR.le op_sub ?_
    rintro x y H Q ⟨A, d, e, r, dom, hx, hy, hf, q⟩
    unfold bopD at hf
    split at hf
    all_goals (first | (rename_i z; cases z; done) | (cases hf; done) | skip)
    rename_i i j _
    cases hf
    exact ⟨i, j, hx.rp rfl, hy.rp rfl, q _ H (.same rfl rfl)⟩
  | .mul => by
    refine OpR.le (OpR.or op_mulW (OpR.or op_repT op_rep)) ?_
    rintro x y H Q ⟨A, d, e, r, dom, hx, hy, hf, q⟩
    unfold bopD at hf
    split at hf
    all_goals (first | (rename_i z; cases z; done) | (cases hf; done) | skip)
    · rename_i i j _
      split at hf
      · rename_i hl
        cases hf
        refine .inl ⟨i, j, hx.rp rfl, hy.rp rfl, ?_, q _ H (.same rfl rfl)⟩
        have := Nat.le_of_ble_eq_true hl
        exact this
      · cases hf
    · rename_i xs k _
      split at hf
      · rename_i hl
        cases hf
        simp only [Bool.and_eq_true, Bool.not_eq_true', decide_eq_true_eq] at hl
        obtain ⟨⟨h1, h2⟩, h3, h4⟩ := hl
        obtain ⟨a, vs, rfl, ra, ha⟩ := hx.rp rfl
        have e1 := ha.len
        have h2 := Nat.le_of_ble_eq_true h2
        exact .inr (.inl ⟨a, k, vs, rfl, hy.rp rfl, ra.sq, (fun z => by rw [z] at e1; rw [List.length_eq_zero_iff.mp e1] at h1; cases h1), h3, h4, by omega, fun p hp => q _ _ (.tup dom hp (Rps.flat k.toNat ha))⟩)
      · cases hf
    · rename_i xs k _
      split at hf
      · rename_i hl
        cases hf
        obtain ⟨h1, h2, h3⟩ := hl
        obtain ⟨a, vs, rfl, ra, ha⟩ := hx.lst
        have e1 := ha.len
        exact .inr (.inr ⟨a, k, vs, rfl, hy.rp rfl, ra, h1, h2, by rw [← e1]; exact (len_ok h3).2, fun p hp => q _ _ (.lst hp (Rps.flat k.toNat ha))⟩)
      · cases hf
  | .fdiv => by
    refine OpR.le (OpR.or op_fdivW op_fdivN) ?_
    rintro x y H Q ⟨A, d, e, r, dom, hx, hy, hf, q⟩
    unfold bopD at hf
    split at hf
    all_goals (first | (rename_i z; cases z; done) | (cases hf; done) | skip)
    rename_i i j _
    obtain ⟨z, hz, rfl⟩ := Option.map_eq_some_iff.mp hf
    unfold divD at hz
    split at hz
    · rename_i hc
      cases hz
      exact .inl ⟨i, j, hx.rp rfl, hy.rp rfl, hc, q _ H (.same rfl rfl)⟩
    · split at hz
      · rename_i hc
        cases hz
        exact .inr ⟨i, j, hx.rp rfl, hy.rp rfl, hc, q _ H (.same rfl rfl)⟩
      · cases hz
  | .mod => by
    refine OpR.le (OpR.or op_mod op_modN) ?_
    rintro x y H Q ⟨A, d, e, r, dom, hx, hy, hf, q⟩
    unfold bopD at hf
    split at hf
    all_goals (first | (rename_i z; cases z; done) | (cases hf; done) | skip)
    rename_i i j _
    obtain ⟨z, hz, rfl⟩ := Option.map_eq_some_iff.mp hf
    unfold modD at hz
    split at hz
    · rename_i hc
      cases hz
      exact .inl ⟨i, j, hx.rp rfl, hy.rp rfl, hc, q _ H (.same rfl rfl)⟩
    · split at hz
      · rename_i hc
        cases hz
        exact .inr ⟨i, j, hx.rp rfl, hy.rp rfl, hc, q _ H (.same rfl rfl)⟩
      · cases hz
  | .pow => by
    refine OpR.le op_powB ?_
    rintro x y H Q ⟨A, d, e, r, dom, hx, hy, hf, q⟩
    unfold bopD at hf
    split at hf
    all_goals (first | (rename_i z; cases z; done) | (cases hf; done) | skip)
    rename_i i j _
    obtain ⟨z, hz, rfl⟩ := Option.map_eq_some_iff.mp hf
    unfold powD at hz
    split at hz
    · rename_i hc
      cases hz
      exact ⟨i, j, hx.rp rfl, hy.rp rfl, hc, q _ H (.same rfl rfl)⟩
    · cases hz

theorem min_le60 {p q : PyData} {n : Nat} (h : Nat.ble p.depth 60 = true) (hu : n + 64 < cLine) : n + min p.depth q.depth < cLine := by
  have h1 := Nat.le_of_ble_eq_true h
  have h2 : min p.depth q.depth ≤ p.depth := Nat.min_le_left _ _
  omega
theorem eqD_some {d e : D} {b : Bool} (h : eqD d e = some b) : ∃ p q, toP d = some p ∧ toP e = some q ∧ p.plain = true ∧ q.plain = true ∧ Nat.ble p.depth 60 = true ∧ PyData.eqv p q = b := by
  unfold eqD at h
  split at h
  · rename_i p q e1 e2
    split at h
    · rename_i hc
      simp only [Bool.and_eq_true] at hc
      cases h
      exact ⟨p, q, e1, e2, hc.1.1, hc.1.2, hc.2, rfl⟩
    · cases h
  · cases h
def rEqX (K : PySem.W.Frag) : R2 := fun x y H Q => ∃ p q, Dp K H x p ∧ Dp K H y q ∧ p.plain = true ∧ q.plain = true ∧ Nat.ble p.depth 60 = true ∧ Q (.bl (PyData.eqv p q)) H
def rNeX (K : PySem.W.Frag) : R2 := fun x y H Q => ∃ p q, Dp K H x p ∧ Dp K H y q ∧ p.plain = true ∧ q.plain = true ∧ Nat.ble p.depth 60 = true ∧ Q (.bl (!PyData.eqv p q)) H
theorem op_eqX (hu : X.A.units + 64 < cLine) : OpR X (compareOp .Eq) (rEqX X.K) := by
  intro pins s σ H x y v u Q I rx ry ⟨p, q, hp, hq, pp, pq, dp, h⟩
  obtain ⟨as, r1⟩ := Dp.reads I p x v hp rx
  obtain ⟨bs, r2⟩ := Dp.reads I q y u hq ry
  exact SeqAt.eq_plain r1 r2 pp pq (min_le60 dp hu) ⟨.bl _, H, I, rfl, h⟩
theorem op_neX (hu : X.A.units + 64 < cLine) : OpR X (compareOp .NotEq) (rNeX X.K) := by
  intro pins s σ H x y v u Q I rx ry ⟨p, q, hp, hq, pp, pq, dp, h⟩
  obtain ⟨as, r1⟩ := Dp.reads I p x v hp rx
  obtain ⟨bs, r2⟩ := Dp.reads I q y u hq ry
  exact SeqAt.ne_plain r1 r2 pp pq (min_le60 dp hu) ⟨.bl _, H, I, rfl, h⟩
theorem inD_some {d : D} {xs : List D} {b : Bool} (h : inD d xs = some b) : ∃ p ps, toP d = some p ∧ toPs xs = some ps ∧ p.plain = true ∧ PyData.plainAll ps = true ∧ Nat.ble p.depth 60 = true ∧ (ps.any fun y => PyData.eqv y p) = b := by
  unfold inD at h
  split at h
  · rename_i p q e1 e2
    split at h
    · rename_i hc
      simp only [Bool.and_eq_true] at hc
      cases h
      exact ⟨p, q, e1, e2, hc.1.1, hc.1.2, hc.2, rfl⟩
    · cases h
  · cases h
theorem min_le60' {p : PyData} {m n : Nat} (h : Nat.ble p.depth 60 = true) (hu : n + 64 < cLine) : n + 1 + min m p.depth < cLine := by
  have h1 := Nat.le_of_ble_eq_true h
  have h2 : min m p.depth ≤ p.depth := Nat.min_le_right _ _
  omega
def rInX (K : PySem.W.Frag) (neg : Bool) : R2 := fun x y H Q => ∃ p ps, Dp K H x p ∧ (Dp K H y (.list ps) ∨ Dp K H y (.tuple ps)) ∧ p.plain = true ∧ PyData.plainAll ps = true ∧ Nat.ble p.depth 60 = true ∧
  Q (.bl (if neg then !(ps.any fun y => PyData.eqv y p) else ps.any fun y => PyData.eqv y p)) H
theorem op_inX (hu : X.A.units + 64 < cLine) : OpR X (compareOp .In) (rInX X.K false) := by
  intro pins s σ H x y v u Q I rx ry ⟨p, ps, hp, hq, pp, pq, dp, h⟩
  obtain ⟨as, r1⟩ := Dp.reads I p x v hp rx
  rcases hq with hq | hq
  · obtain ⟨bs, r2⟩ := Dp.reads I _ y u hq ry
    exact SeqAt.in_list_data r2 r1 pq pp (min_le60' dp hu) ⟨.bl _, H, I, rfl, h⟩
  · obtain ⟨bs, r2⟩ := Dp.reads I _ y u hq ry
    exact SeqAt.in_tuple_data r2 r1 pq pp (min_le60' dp hu) ⟨.bl _, H, I, rfl, h⟩
theorem op_notX (hu : X.A.units + 64 < cLine) : OpR X (compareOp .NotIn) (rInX X.K true) := by
  intro pins s σ H x y v u Q I rx ry ⟨p, ps, hp, hq, pp, pq, dp, h⟩
  obtain ⟨as, r1⟩ := Dp.reads I p x v hp rx
  rcases hq with hq | hq
  · obtain ⟨bs, r2⟩ := Dp.reads I _ y u hq ry
    exact SeqAt.notIn_list_data r2 r1 pq pp (min_le60' dp hu) ⟨.bl _, H, I, rfl, h⟩
  · obtain ⟨bs, r2⟩ := Dp.reads I _ y u hq ry
    exact SeqAt.notIn_tuple_data r2 r1 pq pp (min_le60' dp hu) ⟨.bl _, H, I, rfl, h⟩
theorem Rx.none_iff {K : KB} {H : Hp} {A : AS} {d : D} {x : V} (h : Rx K H A d x) : decide (x = .non) = isNone d := by
  cases d with
  | non => obtain rfl : x = .non := h.rp rfl; rfl
  | bl b => obtain rfl : x = .bl b := h.rp rfl; rfl
  | int b => obtain rfl : x = .int b := h.rp rfl; rfl
  | str b => obtain rfl : x = .str b := h.rp rfl; rfl
  | tup xs => obtain ⟨a, vs, rfl, _⟩ := h.rp rfl; rfl
  | fz xs => obtain ⟨a, o, vs, rfl, _⟩ := h.rp rfl; rfl
  | lst xs => obtain ⟨a, vs, rfl, _⟩ := h.lst; rfl
  | dct ks xs => obtain ⟨a, vs, rfl, _⟩ := h.dct; rfl
  | exc c d => obtain ⟨a, dx, w, rfl, _⟩ := h.rp rfl; rfl
  | yng j caps => obtain ⟨t, f, c', _, rfl, _⟩ := h.rp rfl; rfl
  | clo j cs => obtain ⟨t, f, c', pm, ctv, cl, ws, _, rfl, _⟩ := h.rp rfl; rfl
theorem op_cop (hu : X.A.units + 64 < cLine) : ∀ o : Cop, OpR X (compareOp (copO o)) (rD2 (kb X C) fun d e => (copD o d e).map .bl)
  | .eq => by
    refine OpR.le (op_eqX hu) ?_
    rintro x y H Q ⟨A, d, e, r, dom, hx, hy, hf, q⟩
    obtain ⟨b, hb, rfl⟩ := Option.map_eq_some_iff.mp hf
    obtain ⟨p, p', e1, e2, h1, h2, h3, h4⟩ := eqD_some hb
    exact ⟨p, p', hx.dp e1, hy.dp e2, h1, h2, h3, by rw [h4]; exact q _ H (.same rfl rfl)⟩
  | .ne => by
    refine OpR.le (op_neX hu) ?_
    rintro x y H Q ⟨A, d, e, r, dom, hx, hy, hf, q⟩
    obtain ⟨b, hb, rfl⟩ := Option.map_eq_some_iff.mp hf
    obtain ⟨c, hc, rfl⟩ := Option.map_eq_some_iff.mp hb
    obtain ⟨p, p', e1, e2, h1, h2, h3, h4⟩ := eqD_some hc
    exact ⟨p, p', hx.dp e1, hy.dp e2, h1, h2, h3, by rw [h4]; exact q _ H (.same rfl rfl)⟩
  | .lt => by
    refine OpR.le op_lt ?_
    rintro x y H Q ⟨A, d, e, r, dom, hx, hy, hf, q⟩
    obtain ⟨b, hb, rfl⟩ := Option.map_eq_some_iff.mp hf
    unfold copD at hb
    split at hb
    all_goals (first | (rename_i z; cases z; done) | (cases hb; done) | skip)
    cases hb
    exact ⟨_, _, hx.rp rfl, hy.rp rfl, q _ H (.same rfl rfl)⟩
  | .le => by
    refine OpR.le op_le ?_
    rintro x y H Q ⟨A, d, e, r, dom, hx, hy, hf, q⟩
    obtain ⟨b, hb, rfl⟩ := Option.map_eq_some_iff.mp hf
    unfold copD at hb
    split at hb
    all_goals (first | (rename_i z; cases z; done) | (cases hb; done) | skip)
    cases hb
    exact ⟨_, _, hx.rp rfl, hy.rp rfl, q _ H (.same rfl rfl)⟩
  | .gt => by
    refine OpR.le op_gt ?_
    rintro x y H Q ⟨A, d, e, r, dom, hx, hy, hf, q⟩
    obtain ⟨b, hb, rfl⟩ := Option.map_eq_some_iff.mp hf
    unfold copD at hb
    split at hb
    all_goals (first | (rename_i z; cases z; done) | (cases hb; done) | skip)
    cases hb
    exact ⟨_, _, hx.rp rfl, hy.rp rfl, q _ H (.same rfl rfl)⟩
  | .ge => by
    refine OpR.le op_ge ?_
    rintro x y H Q ⟨A, d, e, r, dom, hx, hy, hf, q⟩
    obtain ⟨b, hb, rfl⟩ := Option.map_eq_some_iff.mp hf
    unfold copD at hb
    split at hb
    all_goals (first | (rename_i z; cases z; done) | (cases hb; done) | skip)
    cases hb
    exact ⟨_, _, hx.rp rfl, hy.rp rfl, q _ H (.same rfl rfl)⟩
  | .is_ => by
    refine OpR.le (OpR.or op_isN op_isBl) ?_
    rintro x y H Q ⟨A, d, e, r, dom, hx, hy, hf, q⟩
    obtain ⟨b, hb, rfl⟩ := Option.map_eq_some_iff.mp hf
    unfold copD at hb
    split at hb
    all_goals (first | (rename_i z; cases z; done) | (cases hb; done) | skip)
    · cases hb
      exact .inl ⟨hy.rp rfl, by rw [hx.none_iff]; exact q _ H (.same rfl rfl)⟩
    · cases hb
      exact .inr ⟨_, _, hx.rp rfl, hy.rp rfl, q _ H (.same rfl rfl)⟩
  | .isnot => by
    refine OpR.le (OpR.or op_notN op_notBl) ?_
    rintro x y H Q ⟨A, d, e, r, dom, hx, hy, hf, q⟩
    obtain ⟨b, hb, rfl⟩ := Option.map_eq_some_iff.mp hf
    unfold copD at hb
    split at hb
    all_goals (first | (rename_i z; cases z; done) | (cases hb; done) | skip)
    · cases hb
      exact .inl ⟨hy.rp rfl, by rw [hx.none_iff]; exact q _ H (.same rfl rfl)⟩
    · cases hb
      exact .inr ⟨_, _, hx.rp rfl, hy.rp rfl, q _ H (.same rfl rfl)⟩
  | .in_ => by
    refine OpR.le (op_inX hu) ?_
    rintro x y H Q ⟨A, d, e, r, dom, hx, hy, hf, q⟩
    obtain ⟨b, hb, rfl⟩ := Option.map_eq_some_iff.mp hf
    unfold copD at hb
    split at hb
    all_goals (first | (rename_i z; cases z; done) | (cases hb; done) | skip)
    · rename_i xs _
      obtain ⟨p, ps, e1, e2, h1, h2, h3, rfl⟩ := inD_some hb
      exact ⟨p, ps, hx.dp e1, .inr (hy.dp (p := .tuple ps) (by unfold toP; rw [e2]; rfl)), h1, h2, h3, q _ H (.same rfl rfl)⟩
    · rename_i xs _
      obtain ⟨p, ps, e1, e2, h1, h2, h3, rfl⟩ := inD_some hb
      exact ⟨p, ps, hx.dp e1, .inl (hy.dp (p := .list ps) (by unfold toP; rw [e2]; rfl)), h1, h2, h3, q _ H (.same rfl rfl)⟩
  | .notin => by
    refine OpR.le (op_notX hu) ?_
    rintro x y H Q ⟨A, d, e, r, dom, hx, hy, hf, q⟩
    obtain ⟨b, hb, rfl⟩ := Option.map_eq_some_iff.mp hf
    unfold copD at hb
    split at hb
    all_goals (first | (rename_i z; cases z; done) | (cases hb; done) | skip)
    · rename_i xs _
      obtain ⟨c, hc, rfl⟩ := Option.map_eq_some_iff.mp hb
      obtain ⟨p, ps, e1, e2, h1, h2, h3, rfl⟩ := inD_some hc
      exact ⟨p, ps, hx.dp e1, .inr (hy.dp (p := .tuple ps) (by unfold toP; rw [e2]; rfl)), h1, h2, h3, q _ H (.same rfl rfl)⟩
    · rename_i xs _
      obtain ⟨c, hc, rfl⟩ := Option.map_eq_some_iff.mp hb
      obtain ⟨p, ps, e1, e2, h1, h2, h3, rfl⟩ := inD_some hc
      exact ⟨p, ps, hx.dp e1, .inl (hy.dp (p := .list ps) (by unfold toP; rw [e2]; rfl)), h1, h2, h3, q _ H (.same rfl rfl)⟩
end
end Dn
end

section
set_option linter.all false
set_option autoImplicit false
set_option maxRecDepth 10000
/-! DnE: subscripts, slices, calls of what is built in. -/
namespace Dn
open PySem PySem.Spec PyProof.Rows L2
section
variable {K : KB} {H H' : Hp} {A : AS} {d : D} {v : V}
theorem Rps.atI {ds : List D} {vs : List V} {i : Int} (h : Rps K H A ds vs) (e : L2.atI ds i = some d) : ∃ v, L2.atI vs i = some v ∧ Rp K H A d v := by
  unfold L2.atI at e ⊢
  obtain ⟨j, h1, h2⟩ := Option.bind_eq_some_iff.mp e
  obtain ⟨v, h3, h4⟩ := h.get h2
  exact ⟨v, by rw [← h.len, h1]; exact h3, h4⟩
theorem Rps.cut {ds : List D} {vs : List V} (lo hi : Option Int) (h : Rps K H A ds vs) : Rps K H A (cutD ds lo hi) (cutV vs lo hi) := by
  unfold cutD cutV
  rw [h.len]
  exact (h.drop _).take _
theorem dlook_val : ∀ {ks : List Int} {xs : List D} {kvs : List (Key × V)} {k : Int} {d : D}, kvs.map (·.1) = ks.map Sum.inl → Rps K H A xs (kvs.map (·.2)) → dlook ks xs k = some d → ∃ v, valV kvs (Sum.inl k) = some v ∧ Rp K H A d v
  | k' :: ks, x :: xs, kv :: kvs, k, d, e, ⟨v, r, q, h1, h2⟩, l => by
    have e1 : kv.1 = Sum.inl k' := (List.cons_eq_cons.mp e).1
    have e2 := (List.cons_eq_cons.mp e).2
    have q1 : kv.2 = v := (List.cons_eq_cons.mp q).1
    have q2 := (List.cons_eq_cons.mp q).2
    unfold dlook at l
    split at l
    · rename_i hk
      cases l
      refine ⟨kv.2, valV_pos (by rw [e1, hk]), by rw [q1]; exact h1⟩
    · rename_i hk
      rw [valV_neg (fun z => hk (by rw [e1] at z; exact Sum.inl.inj z))]
      exact dlook_val e2 (by rw [q2]; exact h2) l
  | [], xs, kvs, k, d, e, h, l => by cases xs <;> cases l
  | k' :: ks, [], kvs, k, d, e, h, l => by cases l
  | k' :: ks, x :: xs, [], k, d, e, h, l => by cases e
theorem dlook_none : ∀ {ks : List Int} {xs : List D} {kvs : List (Key × V)} {k : Int}, kvs.map (·.1) = ks.map Sum.inl → Rps K H A xs (kvs.map (·.2)) → dlook ks xs k = none → valV kvs (Sum.inl k) = none
  | k' :: ks, x :: xs, kv :: kvs, k, e, ⟨v, r, q, h1, h2⟩, l => by
    have e1 : kv.1 = Sum.inl k' := (List.cons_eq_cons.mp e).1
    have e2 := (List.cons_eq_cons.mp e).2
    have q1 : kv.2 = v := (List.cons_eq_cons.mp q).1
    have q2 := (List.cons_eq_cons.mp q).2
    unfold dlook at l
    split at l
    · cases l
    · rename_i hk
      rw [valV_neg (fun z => hk (by rw [e1] at z; exact Sum.inl.inj z))]
      exact dlook_none e2 (by rw [q2]; exact h2) l
  | [], xs, kvs, k, e, h, l => by
    cases kvs with
    | nil => rfl
    | cons kv kvs => cases e
  | k' :: ks, [], kvs, k, e, h, l => by
    cases kvs with
    | nil => rfl
    | cons kv kvs => cases h
  | k' :: ks, x :: xs, [], k, e, h, l => rfl
end
section
variable {prog : Program} {w : World} {A : Around} {E : Value → Shared → Prop} {s : Shared} {l : Addr} {its : List Value} {ns : List Int} {Q : Value → Shared → Prop}
theorem tup_sum (hh : A.handled = none) (hl : s.heap.IsTuple l its.toArray) (hi : IntsAre its ns)
    (h : ∀ h' tk t', (∀ b o, s.heap.get? b = some o → h'.get? b = some o) → Q (.int ns.sum t') { s with heap := h', toks := tk }) : wpAny (model prog w) A (call (.builtin "sum") [.ref l]) Q E s := by
  obtain ⟨xs, e⟩ := hi.allInts.items
  have hn : numsOf (intItems xs).toList = ns := by rw [← e]; exact hi.numsOf
  rw [nums_intItems] at hn
  rw [e] at hl
  have hlt : l < s.heap.objs.size := by obtain ⟨_, e, _⟩ := hl; exact Heap.lt_size e
  refine call_sum_walkG (wpAny_pyIter_tuple hl ?_)
  refine ⟨s.heap.objs.size, _, _, _, _, _, numAt xs, rfl, Walks.tuple (A := A.in1) hh _ l (Nat.ne_of_lt hlt) (intItems xs), ⟨⟨_, Heap.get?_push_size _ rfl, rfl, rfl⟩, hl.push _⟩, fun b hb => ?_, (fun _ _ => intItems_at), fun h' tk t' hk => ?_⟩
  · show b < (s.heap.push _).objs.size
    rw [Heap.size_push]
    rcases List.mem_cons.mp hb with rfl | hb
    · exact Nat.lt_succ_self _
    · rcases List.mem_cons.mp hb with rfl | hb
      · exact Nat.lt_succ_of_lt hlt
      · cases hb
  · have z := h h' tk t' fun b o eb => hk b o (fun hm => absurd (List.mem_singleton.mp hm ▸ Heap.lt_size eb) (Nat.lt_irrefl _)) (Heap.get?_push_of_some _ eb)
    rw [← hn] at z
    rw [preSum_eq, List.take_of_length_le (by simp [intItems])]
    exact z
end
section
variable {X : Cx} {C : Cl}
theorem cr_tsum (hc : X.calm = true) : CallR X (.builtin "sum") (fun vs H Q => ∃ (a : Addr) (ns : List Int), vs = [V.ref a] ∧ SqT X.K H a (ns.map V.int) ∧ Q (.int ns.sum) H) := by
  intro pins s σ H vs us Q I r h
  obtain ⟨a, ns, rfl, hs, q⟩ := h
  obtain ⟨its, rv, hl, _⟩ := I.tuple hs
  rw [Vals.ref1 r]
  exact tup_sum (I.ok.hd hc) hl rv.ints fun h' tk t' hk => ⟨.int _, H, I.kept hk, ⟨_, rfl⟩, q⟩
end
section
variable {X : Cx} {C : Cl}
def rIxD1 : R2 := fun x y H Q => ∃ p k v, x = .ref p ∧ y = .int k ∧ DGet H p (.int k) (some v) ∧ Q v H
theorem ix_dct (hu : X.A.units + 1 < cLine) : IxR X rIxD1 := by
  intro value slice pins s σ H x y v u Q I rx ry ⟨p, k, w, e1, e2, g, q⟩ hs
  subst e1 e2
  cases rx
  exact tail_any (dict_typeIs I g) PySem.F.slot_dict_getitem.lookup (d_getItem hu I g ry fun w' s3 I3 rw' => ⟨w, H, I3, rw', q⟩) hs
theorem ix_all (hu : X.A.units + 1 < cLine) : IxR X (rD2s (kb X C) idxD) := by
  refine IxR.le (IxR.or ix_list (IxR.or ix_tup (ix_dct hu))) ?_
  rintro x y H Q ⟨A, d, e, r, hx, hy, hf, ok⟩
  unfold idxD at hf
  split at hf
  · rename_i xs i
    obtain ⟨a, vs, rfl, ra, ha⟩ := hx.rp rfl
    obtain ⟨w, h1, h2⟩ := ha.atI hf
    exact .inr (.inl ⟨a, vs, i, w, rfl, hy.rp rfl, ra.sq, h1, ok _ h2⟩)
  · rename_i xs i
    obtain ⟨a, vs, rfl, ra, ha⟩ := hx.lst
    obtain ⟨w, h1, h2⟩ := ha.atI hf
    exact .inl ⟨a, vs, i, w, rfl, hy.rp rfl, .inl (.inl ra), h1, ok _ h2⟩
  · rename_i xs i
    obtain ⟨a, o, vs, rfl, na, ra, ha⟩ := hx.rp rfl
    obtain ⟨w, h1, h2⟩ := ha.atI hf
    exact .inl ⟨a, vs, i, w, rfl, hy.rp rfl, .inl (.inr ⟨o, ra⟩), h1, ok _ h2⟩
  · rename_i ks xs i
    obtain ⟨a, kvs, rfl, ra, hk, ha⟩ := hx.dct
    obtain ⟨w, h1, h2⟩ := dlook_val hk ha hf
    obtain rfl : y = .int i := hy.rp rfl
    refine .inr (.inr ⟨a, i, w, rfl, rfl, ?_, ok _ h2⟩)
    rw [← h1]
    exact DGet.k (k := Sum.inl i) ra
  · cases hf
/-! ### slices -/
def rSlD (K : KB) : V → Option Int → Option Int → Hp → VK → Prop := fun x lo hi H Q => ∃ A d r, (∀ a, H a = none → ¬ A a) ∧ Rx K H A d x ∧ slcD d lo hi = some r ∧ ∀ v H', Out K A H r v H' → Q v H'
theorem sl_all : SlR X (rSlD (kb X C)) := by
  refine SlR.le (SlR.or sl_list sl_tupA) ?_
  rintro x lo hi H Q ⟨A, d, r, dom, hx, hf, q⟩
  unfold slcD at hf
  split at hf
  · cases hf
    obtain ⟨a, vs, rfl, ra, ha⟩ := hx.rp rfl
    refine .inr ⟨a, vs, rfl, ra.sq, fun z => ?_, fun _ p hp => q _ _ (.tup dom hp (ha.cut lo hi))⟩
    have e : cutV vs lo hi = vs := by
      unfold cutV
      rw [z.1, z.2, List.drop_zero, Nat.sub_zero, List.take_length]
    exact q _ H (.same rfl ⟨a, vs, rfl, ra, by have := ha.cut lo hi; rw [e] at this; exact this⟩)
  · cases hf
    obtain ⟨a, vs, rfl, ra, ha⟩ := hx.lst
    exact .inl ⟨a, vs, rfl, .inl (.inl ra), fun p hp => q _ _ (.lst hp (ha.cut _ _))⟩
  · cases hf
    obtain ⟨a, o, vs, rfl, na, ra, ha⟩ := hx.rp rfl
    exact .inl ⟨a, vs, rfl, .inl (.inr ⟨o, ra⟩), fun p hp => q _ _ (.lst hp (ha.cut _ _))⟩
  · cases hf
/-! ### built-in functions of one value -/
def rC1 (K : KB) (f : D → Option D) : List V → Hp → VK → Prop := fun vs H Q => ∃ x, vs = [x] ∧ rD1 K f x H Q
theorem srt_perm : ∀ l : List Int, (srt l).Perm l
  | [] => .nil
  | i :: r => (ins_perm i (srt r)).trans ((srt_perm r).cons i)
where ins_perm (i : Int) : ∀ l : List Int, (ins i l).Perm (i :: l)
  | [] => .refl _
  | j :: r => by
    unfold ins
    split
    · exact .refl _
    · exact ((ins_perm i r).cons j).trans (List.Perm.swap _ _ _)
theorem ins_mem {i k : Int} : ∀ {l : List Int}, k ∈ ins i l → k = i ∨ k ∈ l := fun {l} h => by
  have := (srt_perm.ins_perm i l).mem_iff.mp h
  simpa using this
theorem ins_sorted (i : Int) : ∀ {l : List Int}, l.Pairwise (· ≤ ·) → (ins i l).Pairwise (· ≤ ·)
  | [], _ => by simp [ins]
  | j :: r, h => by
    unfold ins
    obtain ⟨h1, h2⟩ := List.pairwise_cons.mp h
    split
    · rename_i hij
      refine List.pairwise_cons.mpr ⟨fun k hk => ?_, h⟩
      rcases List.mem_cons.mp hk with rfl | hk
      · exact hij
      · exact Int.le_trans hij (h1 k hk)
    · rename_i hij
      refine List.pairwise_cons.mpr ⟨fun k hk => ?_, ins_sorted i h2⟩
      rcases ins_mem hk with rfl | hk
      · omega
      · exact h1 k hk
theorem srt_sorted : ∀ l : List Int, (srt l).Pairwise (· ≤ ·)
  | [] => .nil
  | i :: r => ins_sorted i (srt_sorted r)
theorem maxL_spec : ∀ (r : List Int) (i : Int), maxL i r ∈ i :: r ∧ ∀ y ∈ i :: r, y ≤ maxL i r
  | [], i => ⟨by simp [maxL], fun y hy => by simp at hy; rw [hy]; exact Int.le_refl _⟩
  | j :: r, i => by
    obtain ⟨h1, h2⟩ := maxL_spec r (if j > i then j else i)
    unfold maxL
    refine ⟨?_, fun y hy => ?_⟩
    · rcases List.mem_cons.mp h1 with h | h
      · rw [h]; split <;> simp
      · simp [h]
    · have h3 := h2 _ (List.mem_cons_self)
      rcases List.mem_cons.mp hy with rfl | hy
      · refine Int.le_trans ?_ h3; split <;> omega
      · rcases List.mem_cons.mp hy with rfl | hy
        · refine Int.le_trans ?_ h3; split <;> omega
        · exact h2 y (List.mem_cons_of_mem _ hy)
theorem minL_spec : ∀ (r : List Int) (i : Int), minL i r ∈ i :: r ∧ ∀ y ∈ i :: r, minL i r ≤ y
  | [], i => ⟨by simp [minL], fun y hy => by simp at hy; rw [hy]; exact Int.le_refl _⟩
  | j :: r, i => by
    obtain ⟨h1, h2⟩ := minL_spec r (if j < i then j else i)
    unfold minL
    refine ⟨?_, fun y hy => ?_⟩
    · rcases List.mem_cons.mp h1 with h | h
      · rw [h]; split <;> simp
      · simp [h]
    · have h3 := h2 _ (List.mem_cons_self)
      rcases List.mem_cons.mp hy with rfl | hy
      · refine Int.le_trans h3 ?_; split <;> omega
      · rcases List.mem_cons.mp hy with rfl | hy
        · refine Int.le_trans h3 ?_; split <;> omega
        · exact h2 y (List.mem_cons_of_mem _ hy)
theorem c_len : CallR X (.builtin "len") (rC1 (kb X C) (b1D .len)) := by
  refine CallR.le call_len ?_
  rintro xs H Q ⟨x, rfl, A, d, r, dom, hx, hf, q⟩
  unfold b1D at hf
  split at hf
  all_goals (first | (rename_i z; cases z; done) | (cases hf; done) | skip)
  · cases hf
    obtain ⟨a, vs, rfl, ra, ha⟩ := hx.rp rfl
    exact ⟨_, _, rfl, .inr ⟨vs, ra.sq, ha.len⟩, q _ H (.same rfl rfl)⟩
  · cases hf
    obtain ⟨a, vs, rfl, ra, ha⟩ := hx.lst
    exact ⟨_, _, rfl, .inl ⟨vs, .inl (.inl ra), ha.len⟩, q _ H (.same rfl rfl)⟩
  · cases hf
    obtain ⟨a, o, vs, rfl, na, ra, ha⟩ := hx.rp rfl
    exact ⟨_, _, rfl, .inl ⟨vs, .inl (.inr ⟨o, ra⟩), ha.len⟩, q _ H (.same rfl rfl)⟩
theorem c_abs : CallR X (.builtin "abs") (rC1 (kb X C) (b1D .abs)) := by
  refine CallR.le call_abs ?_
  rintro xs H Q ⟨x, rfl, A, d, r, dom, hx, hf, q⟩
  unfold b1D at hf
  split at hf
  all_goals (first | (rename_i z; cases z; done) | (cases hf; done) | skip)
  cases hf
  obtain rfl := hx.rp rfl
  exact ⟨_, rfl, q _ H (.same rfl rfl)⟩
theorem c_int : CallR X (.type "int") (rC1 (kb X C) (b1D .int)) := by
  refine CallR.le call_int1 ?_
  rintro xs H Q ⟨x, rfl, A, d, r, dom, hx, hf, q⟩
  unfold b1D at hf
  split at hf
  all_goals (first | (rename_i z; cases z; done) | (cases hf; done) | skip)
  · cases hf
    obtain rfl := hx.rp rfl
    exact .inl ⟨_, rfl, q _ H (.same rfl rfl)⟩
  · cases hf
    obtain rfl := hx.rp rfl
    exact .inr ⟨_, rfl, q _ H (.same rfl rfl)⟩
theorem c_tuple : CallR X (.type "tuple") (rC1 (kb X C) (b1D .tuple)) := by
  refine CallR.le call_tuple_of ?_
  rintro xs H Q ⟨x, rfl, A, d, r, dom, hx, hf, q⟩
  unfold b1D at hf
  split at hf
  all_goals (first | (rename_i z; cases z; done) | (cases hf; done) | skip)
  · cases hf
    obtain ⟨a, vs, rfl, ra, ha⟩ := hx.lst
    exact ⟨a, vs, rfl, .inl ⟨.inl (.inl ra), fun p hp => q _ _ (.tup dom hp ha)⟩⟩
  · cases hf
    obtain ⟨a, vs, rfl, ra, ha⟩ := hx.rp rfl
    exact ⟨a, vs, rfl, .inr ⟨ra.sq, q _ H (.same rfl ⟨a, vs, rfl, ra, ha⟩)⟩⟩
theorem c_list : CallR X (.type "list") (rC1 (kb X C) (b1D .list)) := by
  refine CallR.le call_list_of ?_
  rintro xs H Q ⟨x, rfl, A, d, r, dom, hx, hf, q⟩
  unfold b1D at hf
  split at hf
  all_goals (first | (rename_i z; cases z; done) | (cases hf; done) | skip)
  · cases hf
    obtain ⟨a, vs, rfl, ra, ha⟩ := hx.lst
    exact ⟨a, vs, rfl, .inl (.inl (.inl ra)), fun p hp => q _ _ (.lst hp ha)⟩
  · cases hf
    obtain ⟨a, vs, rfl, ra, ha⟩ := hx.rp rfl
    exact ⟨a, vs, rfl, .inr ra.sq, fun p hp => q _ _ (.lst hp ha)⟩
theorem c_sum (hc : X.calm = true) : CallR X (.builtin "sum") (rC1 (kb X C) (b1D .sum)) := by
  refine CallR.le (CallR.or (cr_sum hc) (cr_tsum hc)) ?_
  rintro xs H Q ⟨x, rfl, A, d, r, dom, hx, hf, q⟩
  unfold b1D at hf
  split at hf
  all_goals (first | (rename_i z; cases z; done) | (cases hf; done) | skip)
  · obtain ⟨l, hl, rfl⟩ := Option.map_eq_some_iff.mp hf
    obtain ⟨a, vs, rfl, ra, ha⟩ := hx.lst
    obtain rfl := ha.intL hl
    exact .inl ⟨a, l, rfl, .inl (.inl ra), q _ H (.same rfl rfl)⟩
  · obtain ⟨l, hl, rfl⟩ := Option.map_eq_some_iff.mp hf
    obtain ⟨a, o, vs, rfl, na, ra, ha⟩ := hx.rp rfl
    obtain rfl := ha.intL hl
    exact .inl ⟨a, l, rfl, .inl (.inr ⟨o, ra⟩), q _ H (.same rfl rfl)⟩
  · obtain ⟨l, hl, rfl⟩ := Option.map_eq_some_iff.mp hf
    obtain ⟨a, vs, rfl, ra, ha⟩ := hx.rp rfl
    obtain rfl := ha.intL hl
    exact .inr ⟨a, l, rfl, ra.sq, q _ H (.same rfl rfl)⟩
theorem c_max (hc : X.calm = true) : CallR X (.builtin "max") (rC1 (kb X C) (b1D .max)) := by
  refine CallR.le (cr_max hc) ?_
  rintro xs H Q ⟨x, rfl, A, d, r, dom, hx, hf, q⟩
  unfold b1D at hf
  split at hf
  all_goals (first | (rename_i z; cases z; done) | (cases hf; done) | skip)
  split at hf
  · rename_i i l hl
    cases hf
    obtain ⟨a, vs, rfl, ra, ha⟩ := hx.lst
    obtain rfl := ha.intL hl
    refine ⟨a, i :: l, rfl, .inl (.inl ra), by simp, fun m hm hle => ?_⟩
    obtain ⟨h1, h2⟩ := maxL_spec l i
    rw [Int.le_antisymm (h2 m hm) (hle _ h1)]
    exact q _ H (.same rfl rfl)
  · cases hf
theorem c_min (hc : X.calm = true) : CallR X (.builtin "min") (rC1 (kb X C) (b1D .min)) := by
  refine CallR.le (cr_min hc) ?_
  rintro xs H Q ⟨x, rfl, A, d, r, dom, hx, hf, q⟩
  unfold b1D at hf
  split at hf
  all_goals (first | (rename_i z; cases z; done) | (cases hf; done) | skip)
  split at hf
  · rename_i i l hl
    cases hf
    obtain ⟨a, vs, rfl, ra, ha⟩ := hx.lst
    obtain rfl := ha.intL hl
    refine ⟨a, i :: l, rfl, .inl (.inl ra), by simp, fun m hm hle => ?_⟩
    obtain ⟨h1, h2⟩ := minL_spec l i
    rw [Int.le_antisymm (hle _ h1) (h2 m hm)]
    exact q _ H (.same rfl rfl)
  · cases hf
theorem c_all (hc : X.calm = true) : CallR X (.builtin "all") (rC1 (kb X C) (b1D .all)) := by
  refine CallR.le (cr_all hc) ?_
  rintro xs H Q ⟨x, rfl, A, d, r, dom, hx, hf, q⟩
  unfold b1D at hf
  split at hf
  all_goals (first | (rename_i z; cases z; done) | (cases hf; done) | skip)
  obtain ⟨l, hl, rfl⟩ := Option.map_eq_some_iff.mp hf
  obtain ⟨a, vs, rfl, ra, ha⟩ := hx.lst
  obtain rfl := ha.bolL hl
  exact ⟨a, l, rfl, .inl (.inl ra), q _ H (.same rfl rfl)⟩
theorem c_any (hc : X.calm = true) : CallR X (.builtin "any") (rC1 (kb X C) (b1D .any)) := by
  refine CallR.le (cr_any hc) ?_
  rintro xs H Q ⟨x, rfl, A, d, r, dom, hx, hf, q⟩
  unfold b1D at hf
  split at hf
  all_goals (first | (rename_i z; cases z; done) | (cases hf; done) | skip)
  obtain ⟨l, hl, rfl⟩ := Option.map_eq_some_iff.mp hf
  obtain ⟨a, vs, rfl, ra, ha⟩ := hx.lst
  obtain rfl := ha.bolL hl
  exact ⟨a, l, rfl, .inl (.inl ra), q _ H (.same rfl rfl)⟩
theorem c_sorted : CallR X (.builtin "sorted") (rC1 (kb X C) (b1D .sorted)) := by
  refine CallR.le cr_sortedI ?_
  rintro xs H Q ⟨x, rfl, A, d, r, dom, hx, hf, q⟩
  unfold b1D at hf
  split at hf
  all_goals (first | (rename_i z; cases z; done) | (cases hf; done) | skip)
  obtain ⟨l, hl, rfl⟩ := Option.map_eq_some_iff.mp hf
  obtain ⟨a, vs, rfl, ra, ha⟩ := hx.lst
  obtain rfl := ha.intL hl
  refine ⟨a, l, rfl, .inl (.inl ra), fun ns' p hp hs hn => ?_⟩
  obtain rfl := PySem.W.ksm_same (hp.trans (srt_perm l).symm) hs (srt_sorted l)
  exact q _ _ (.lst hn (Rps.ofInts _))
theorem c_max2 (hc : X.calm = true) : CallR X (.builtin "max") (fun vs H Q => ∃ x y, vs = [x, y] ∧ rD2s (kb X C) (b2D .max) x y H Q) := by
  refine CallR.le (call_max2 hc) ?_
  rintro xs H Q ⟨x, y, rfl, A, d, e, r, hx, hy, hf, q⟩
  unfold b2D at hf
  split at hf
  all_goals (first | (rename_i z; cases z; done) | (cases hf; done) | skip)
  cases hf
  obtain rfl := hx.rp rfl
  obtain rfl := hy.rp rfl
  exact ⟨_, _, rfl, q _ rfl⟩
theorem c_min2 (hc : X.calm = true) : CallR X (.builtin "min") (fun vs H Q => ∃ x y, vs = [x, y] ∧ rD2s (kb X C) (b2D .min) x y H Q) := by
  refine CallR.le (call_min2 hc) ?_
  rintro xs H Q ⟨x, y, rfl, A, d, e, r, hx, hy, hf, q⟩
  unfold b2D at hf
  split at hf
  all_goals (first | (rename_i z; cases z; done) | (cases hf; done) | skip)
  cases hf
  obtain rfl := hx.rp rfl
  obtain rfl := hy.rp rfl
  exact ⟨_, _, rfl, q _ rfl⟩

/-! ### isinstance, repr -/
def tyS : Ty → String
  | .int => "int"
  | .bool => "bool"
  | .tuple => "tuple"
  | .str => "str"
  | .list => "list"
  | .dict => "dict"
def tyN : D → String
  | .non => "NoneType"
  | .bl _ => "bool"
  | .int _ => "int"
  | .str _ => "str"
  | .tup _ => "tuple"
  | .lst _ => "list"
  | .fz _ => "list"
  | .dct _ _ => "dict"
  | _ => "object"
theorem kit_tab (d : D) (t : Ty) (h : isX d = false) : kitB (tyN d) (tyS t) = some (isiD t d) := by
  cases d <;> first
    | (cases h; done)
    | (cases t <;> (simp only [tyN, tyS, isiD]; decide +kernel))
theorem Rx.ty {K : KB} {H : Hp} {A : AS} {d : D} {x : V} (h : Rx K H A d x) (hx : isX d = false) : TyX K.k H x (.type (tyN d)) := by
  cases d with
  | non => obtain rfl : x = .non := h.rp rfl; exact .base .non
  | bl b => obtain rfl : x = .bl b := h.rp rfl; exact .base (.bl b)
  | int b => obtain rfl : x = .int b := h.rp rfl; exact .base (.int b)
  | str b => obtain rfl : x = .str b := h.rp rfl; exact .base (.str b)
  | tup xs =>
    obtain ⟨a, vs, rfl, ra, _⟩ := h.rp rfl
    rcases ra with ⟨_, e⟩ | ⟨o, its, n, e, c, _⟩
    · exact .base (.tup e)
    · exact .kTuple e c
  | fz xs => obtain ⟨a, o, vs, rfl, _, e, _⟩ := h.rp rfl; exact .base (.frz e)
  | lst xs => obtain ⟨a, vs, rfl, e, _⟩ := h.lst; exact .base (.lst e)
  | dct ks xs => obtain ⟨a, vs, rfl, e, _⟩ := h.dct; exact .base (.dK e)
  | exc c d => cases hx
  | yng j caps => cases hx
  | clo j cs => cases hx
def rIs (K : KB) (t : Ty) : List V → Hp → VK → Prop := fun vs H Q => ∃ x, vs = [x, .ty (tyS t)] ∧ ∃ A d, Rx K H A d x ∧ isX d = false ∧ Q (.bl (isiD t d)) H
theorem c_isi (t : Ty) : CallR X (.builtin "isinstance") (rIs (kb X C) t) := by
  refine CallR.le call_isi ?_
  rintro xs H Q ⟨x, rfl, A, d, hx, hn, q⟩
  exact ⟨x, _, _, .type (tyS t), isiD t d, rfl, .ty _, hx.ty hn, kit_ty (kit_tab d t hn), q⟩
theorem c_repr (hg : X.A.guards = some []) (hu : X.A.units + 64 < cLine) : CallR X (.builtin "repr") (rC1 (kb X C) (b1D .repr)) := by
  rintro pins s σ H xs us Q I rv ⟨x, rfl, A, d, r, dom, hx, hf, q⟩
  obtain ⟨u, rfl, ru⟩ := vals1 rv
  have hf' : (match toP d with
    | some p => if !p.hasDict && PyData.showable p && Nat.ble p.depth 60 && okLen p.shown.length then some (D.str p.shown) else none
    | none => none) = some r := hf
  cases ep : toP d with
  | none => rw [ep] at hf'; cases hf'
  | some p =>
    rw [ep] at hf'
    dsimp only at hf'
    split at hf'
    · rename_i hc
      simp only [Bool.and_eq_true] at hc
      obtain ⟨⟨⟨h1, h2⟩, h3⟩, h4⟩ := hc
      cases hf'
      have hd : p.hasDict = false := by
        cases e : p.hasDict with
        | false => rfl
        | true => rw [e] at h1; cases h1
      have q' := q (.str p.shown) H (.same rfl rfl)
      obtain ⟨as, rd⟩ := Dp.reads I p x u (hx.dp ep) ru
      have dep := Nat.le_of_ble_eq_true h3
      cases rd with
      | none => exact PySem.P.repr_of_none ⟨.str _, H, I.tok _, ⟨_, rfl⟩, q'⟩
      | bool b => exact PySem.P.repr_of_bool ⟨.str _, H, I.tok _, ⟨_, rfl⟩, q'⟩
      | int i t => exact PySem.P.repr_of_int (of_decide_eq_true h2) ⟨.str _, H, I.tok _, ⟨_, rfl⟩, q'⟩
      | str y t => exact PySem.P.repr_of_str ⟨.str _, H, I.tok _, ⟨_, rfl⟩, q'⟩ (len_ok h4).2
      | list a1 a2 a3 a4 => exact repr_of_reads' (.list a1 a2 a3 a4) h2 (fun z => absurd z (by rw [hd]; exact Bool.false_ne_true)) hg (by omega) (fun _ _ e => e) (fun h' u tk k => ⟨.str _, H, I.kept k, ⟨_, rfl⟩, q'⟩) (len_ok h4).2
      | tuple a1 a2 a3 a4 => exact repr_of_reads' (.tuple a1 a2 a3 a4) h2 (fun z => absurd z (by rw [hd]; exact Bool.false_ne_true)) hg (by omega) (fun _ _ e => e) (fun h' u tk k => ⟨.str _, H, I.kept k, ⟨_, rfl⟩, q'⟩) (len_ok h4).2
      | dict => cases hd
    · cases hf'
end
end Dn
end

section
set_option linter.all false
set_option autoImplicit false
set_option maxRecDepth 10000
/-! DnF: stores, targets, items with their freshness. -/
namespace Dn
open PySem PySem.Spec PyProof.Rows L2

/-- what the rules ask of the frame -/
structure Gd (X : Cx) : Prop where
  calm : X.calm = true
  un : X.A.units + 64 < cLine
  gd : X.A.guards = some []
  nd : X.N.Nodup
  po : PassesOwn (model X.prog X.w) X.A X.env X.xe
section
variable {K : KB} {Z : AS} {Γ Γ' : Env} {σ : L2.St} {H H' : Hp} {M M' : AS}
theorem Rel.store (r : Rel K Z Γ σ H M) {i : Nat} {d : D} {fr : Bool} {v : V} (e : store Γ i d fr = some Γ') (h : RVal K Z Γ σ H M d fr v) :
    Rel K Z Γ' (σ.set i (some v)) H M ∧ ∀ a, Apart Γ σ a → (fr = true → v ≠ .ref a) → Apart Γ' (σ.set i (some v)) a := by
  have hi : i < σ.length ∧ Γ' = Γ.set i (if fr then .ow d else .sh d) := by
    unfold Dn.store at e
    split at e
    · cases e
    · rename_i s _ hs
      cases e
      exact ⟨by rw [← r.len]; exact (List.getElem?_eq_some_iff.mp hs).1, rfl⟩
    · cases e
  obtain ⟨hi, rfl⟩ := hi
  have get : ∀ {j : Nat}, j ≠ i → (σ.set i (some v))[j]? = σ[j]? := fun {j} hj => List.getElem?_set_ne (Ne.symm hj)
  refine ⟨⟨by rw [List.length_set, List.length_set]; exact r.len, fun j s q => ?_, fun j l s t b hne qs qt os ot hj => ?_, r.zm, r.zd, r.md, r.tb, r.nc⟩, fun a ap hv j s q o => ?_⟩
  · rcases get_set q with ⟨rfl, rfl⟩ | ⟨hne, q⟩
    · rw [List.getElem?_set_self hi]
      unfold RVal at h
      cases fr with
      | false => rw [if_neg Bool.false_ne_true] at h; exact ⟨v, rfl, h⟩
      | true =>
        rw [if_pos rfl] at h
        obtain ⟨a, rfl, m, o, ap⟩ := h
        exact ⟨a, rfl, m, o⟩
    · rw [get (Ne.symm hne)]
      exact r.sl j s q
  · rcases get_set qs with ⟨rfl, rfl⟩ | ⟨h1, qs'⟩
    · cases fr with
      | false => cases os
      | true =>
        unfold RVal at h
        rw [if_pos rfl] at h
        obtain ⟨a, rfl, m, o, ap⟩ := h
        rw [List.getElem?_set_self hi] at hj
        cases hj
        rcases get_set qt with ⟨rfl, rfl⟩ | ⟨h2, qt⟩
        · exact absurd rfl hne
        · rw [get (Ne.symm h2)]
          exact ap l t qt ot
    · rw [get (Ne.symm h1)] at hj
      rcases get_set qt with ⟨rfl, rfl⟩ | ⟨h2, qt⟩
      · cases fr with
        | false => cases ot
        | true =>
          unfold RVal at h
          rw [if_pos rfl] at h
          obtain ⟨a, rfl, m, o, ap⟩ := h
          rw [List.getElem?_set_self hi]
          intro z
          cases z
          exact ap j s qs' os hj
      · rw [get (Ne.symm h2)]
        exact r.inj j l s t b hne qs' qt os ot hj
  · rcases get_set q with ⟨rfl, rfl⟩ | ⟨h1, q⟩
    · cases fr with
      | false => cases o
      | true =>
        rw [List.getElem?_set_self hi]
        exact fun z => hv rfl (Option.some.inj (Option.some.inj z))
    · rw [get (Ne.symm h1)]
      exact ap j s q o
end

/-! ### items with their freshness -/
def FrA : List (D × Bool) → List V → List Addr
  | x :: l, v :: vs => match x.2, v with
    | true, .ref a => a :: FrA l vs
    | _, _ => FrA l vs
  | _, _ => []
def RVals (K : KB) (Z : AS) (Γ : Env) (σ : L2.St) (H : Hp) (M : AS) : List (D × Bool) → List V → Prop
  | [], vs => vs = []
  | x :: l, vs => ∃ v r, vs = v :: r ∧ RVal K Z Γ σ H M x.1 x.2 v ∧ RVals K Z Γ σ H M l r ∧ (x.2 = true → ∀ a, v = .ref a → a ∉ FrA l r)
section
variable {K : KB} {Z : AS} {Γ Γ' : Env} {σ : L2.St} {H H' : Hp} {M M' : AS}
theorem RVals.mem : ∀ {l : List (D × Bool)} {vs : List V} {a : Addr}, RVals K Z Γ σ H M l vs → a ∈ FrA l vs → M a
  | [], _, a, h, m => by cases h; simp [FrA] at m
  | x :: l, _, a, ⟨v, r, e, h1, h2, h3⟩, m => by
    subst e
    unfold FrA at m
    split at m
    · rename_i b hx
      unfold RVal at h1
      rw [if_pos hx] at h1
      obtain ⟨c, q, mc, _⟩ := h1
      cases q
      rcases List.mem_cons.mp m with rfl | m
      · exact mc
      · exact RVals.mem h2 m
    · exact RVals.mem h2 m
theorem RVal.conv {d : D} {fr : Bool} {v : V} {Z' M' : AS} (h : RVal K Z Γ σ H M d fr v) (k : ∀ b, ¬ un M Z b → ¬ un M' Z' b) (km : ∀ b, M b → M' b) : RVal K Z' Γ σ H M' d fr v := by
  unfold RVal at h ⊢
  cases fr with
  | false => rw [if_neg Bool.false_ne_true] at h ⊢; exact h.mono (fun b u q n => ⟨q, k b n⟩) _ _
  | true =>
    rw [if_pos rfl] at h ⊢
    obtain ⟨a, e, m, o, ap⟩ := h
    exact ⟨a, e, km a m, o.mono rfl fun b u q n => ⟨q, k b n⟩, ap⟩
theorem RVals.conv {Z' M' : AS} (k : ∀ b, ¬ un M Z b → ¬ un M' Z' b) (km : ∀ b, M b → M' b) : ∀ {l : List (D × Bool)} {vs : List V}, RVals K Z Γ σ H M l vs → RVals K Z' Γ σ H M' l vs
  | [], _, h => h
  | x :: l, _, ⟨v, r, e, h1, h2, h3⟩ => ⟨v, r, e, h1.conv k km, RVals.conv k km h2, h3⟩
end
def tEf (K : KB) (f : Env → Res (List (D × Bool))) : TA := fun σ H Q => ∃ Z M Γ, Rel K Z Γ σ H M ∧ ∃ l Γ', f Γ = .ok l Γ' ∧
  ∀ vs H' M', Rel K Z Γ' σ H' M' → Fr H M H' M' → RVals K Z Γ' σ H' M' l vs → Q vs H'
section
variable {X : Cx} {C : Cl} {cf : CallF} {pos : Pos}
theorem ef_nil : PA X [] (tEf (kb X C) (evEs cf .nil)) := by
  refine PA.le pa_nil ?_
  rintro σ H Q ⟨Z, M, Γ, r, l, Γ', e, q⟩
  cases e
  exact q [] H M r Fr.refl rfl
theorem ef_cons {a : Expr} {es : List Expr} {ea : E} {r : Es} (ha : PE X a (tE (kb X C) (evE cf ea))) (hr : PA X es (tEf (kb X C) (evEs cf r))) (hs : noStar a = true := by rfl) : PA X (a :: es) (tEf (kb X C) (evEs cf (.cons ea r))) := by
  refine PA.le (pa_cons ha hr (star1 hs)) ?_
  rintro σ H Q ⟨Z, M, Γ, r, l, Γ', e, q⟩
  unfold evEs at e
  obtain ⟨⟨d, fr⟩, Γ1, e1, e2⟩ := Res.bind_ok e
  obtain ⟨l', Γ2, e3, e4⟩ := Res.bind_ok e2
  cases e4
  refine ⟨Z, M, Γ, r, _, Γ1, e1, fun v H1 M1 r1 f1 rv => ?_⟩
  cases fr with
  | false =>
    refine ⟨Z, M1, Γ1, r1, l', _, e3, fun vs H2 M2 r2 f2 rvs => ?_⟩
    unfold RVal at rv
    rw [if_neg Bool.false_ne_true] at rv
    exact q (v :: vs) H2 M2 r2 (f1.trans f2) ⟨v, vs, rfl, by unfold RVal; rw [if_neg Bool.false_ne_true]; exact Rp.mono (f2.out r1.zm) _ _ rv, rvs, fun z => by cases z⟩
  | true =>
    unfold RVal at rv
    rw [if_pos rfl] at rv
    obtain ⟨a, rfl, m, o, ap⟩ := rv
    have nz : ¬ Z a := fun z => r1.zm a z m
    refine ⟨and1 Z a, no1 M1 a, Γ1, r1.aside m ap o.noTab, l', _, e3, fun vs H2 M2 r2 f2 rvs => ?_⟩
    have nM2 : ¬ M2 a := r2.zm a (.inr rfl)
    have r3 := r2.aback nz
    have f3 : Fr H1 M1 H2 (and1 M2 a) := ⟨fun b u q n => f2.kp b u q fun z => n z.1, fun b mb => by
      rcases mb with mb | mb
      · rcases f2.nw b mb with z | z
        · exact .inl z.1
        · exact .inr z
      · rw [mb]; exact .inl m, f2.dm⟩
    have keep : H2 a = H1 a := by
      cases e : H1 a with
      | none => exact absurd e (r1.md a m)
      | some u => exact f2.kp a u e fun z => z.2 rfl
    have k1 : ∀ b u, H1 b = some u → ¬ un M1 Z b → H2 b = some u ∧ ¬ un (and1 M2 a) Z b := f3.out r1.zm
    refine q (.ref a :: vs) H2 _ r3 (f1.trans f3) ⟨_, vs, rfl, ?_, rvs.conv (fun b n z => n ?_) fun b => .inl, fun _ b hb mb => ?_⟩
    · unfold RVal
      rw [if_pos rfl]
      exact ⟨a, rfl, .inr rfl, o.mono keep k1, apart_of_none r2 nM2⟩
    · rcases z with (z | z) | z
      · exact .inl z
      · exact .inr (.inr z)
      · exact .inr (.inl z)
    · cases hb
      exact nM2 (rvs.mem mb)

/-! ### targets -/
def Eqs (B : List Nat) (σ σ' : L2.St) : Prop := ∀ i ∈ B, σ'[i]? = σ[i]?
theorem Eqs.refl {B : List Nat} {σ : L2.St} : Eqs B σ σ := fun _ _ => rfl
theorem Eqs.trans {B : List Nat} {σ σ1 σ2 : L2.St} (a : Eqs B σ σ1) (b : Eqs B σ1 σ2) : Eqs B σ σ2 := fun i h => (b i h).trans (a i h)
theorem Eqs.set {B : List Nat} {σ : L2.St} {i : Nat} {v : Option V} (h : i ∉ B) : Eqs B σ (σ.set i v) := fun j hj => List.getElem?_set_ne fun z => h (by rw [z]; exact hj)
/-- a target takes a shared value -/
def tG (K : KB) (B : List Nat) (g : Env → D → Option Env) : TG := fun v σ H Q => ∃ Z M Γ, Rel K Z Γ σ H M ∧ ∃ d Γ', g Γ d = some Γ' ∧ Rp K H (un M Z) d v ∧ ∀ σ', Rel K Z Γ' σ' H M → Eqs B σ σ' → Q σ' H
def tGs (K : KB) (B : List Nat) (g : Env → List D → Option Env) : TGs := fun vs σ H Q => ∃ Z M Γ, Rel K Z Γ σ H M ∧ ∃ ds Γ', g Γ ds = some Γ' ∧ Rps K H (un M Z) ds vs ∧ ∀ σ', Rel K Z Γ' σ' H M → Eqs B σ σ' → Q σ' H
theorem PG.le {e : Expr} {t t' : TG} (h : PG X e t') (k : ∀ v σ H Q, t v σ H Q → t' v σ H Q) : PG X e t := ⟨fun pins s σ H v u Q I r q => h.run pins s σ H v u Q I r (k v σ H Q q)⟩
theorem PGs.le {e : List Expr} {t t' : TGs} (h : PGs X e t') (k : ∀ v σ H Q, t v σ H Q → t' v σ H Q) : PGs X e t := ⟨fun pins s σ H v u Q I r q => h.run pins s σ H v u Q I r (k v σ H Q q)⟩
theorem g_nm {B : List Nat} {i : Nat} {e : Expr} (h : PG X e (gName i)) (hB : i ∉ B := by decide) : PG X e (tG (kb X C) B fun Γ => bind1 Γ (.nm i)) := by
  refine PG.le h ?_
  rintro v σ H Q ⟨Z, M, Γ, r, d, Γ', e, hp, q⟩
  obtain ⟨r', _⟩ := r.store (v := v) (fr := false) e (by unfold RVal; rw [if_neg Bool.false_ne_true]; exact hp)
  exact q _ r' (Eqs.set hB)
theorem gs_nil {B : List Nat} : PGs X [] (tGs (kb X C) B fun Γ => bindL Γ .nil) := by
  refine PGs.le pgs_nil ?_
  rintro vs σ H Q ⟨Z, M, Γ, r, ds, Γ', e, hp, q⟩
  cases ds with
  | nil =>
    have e : some Γ = some Γ' := e
    cases e
    exact ⟨hp, q σ r Eqs.refl⟩
  | cons d ds => cases e
theorem star2 {a : Expr} {es : List Expr} {env : PySem.Env} (h : noStar a = true) : (assignEach (a :: es) env).map (·.2) = assign a env :: (assignEach es env).map (·.2) := by
  cases a <;> first | rfl | cases h
theorem gs_cons {B : List Nat} {a : Expr} {es : List Expr} {g : Tg} {gs : Tgs} (h1 : PG X a (tG (kb X C) B fun Γ => bind1 Γ g)) (h2 : PGs X es (tGs (kb X C) B fun Γ => bindL Γ gs)) (hs : noStar a = true := by rfl) : PGs X (a :: es) (tGs (kb X C) B fun Γ => bindL Γ (.cons g gs)) := by
  refine PGs.le (pgs_cons h1 h2 (star2 hs)) ?_
  rintro vs σ H Q ⟨Z, M, Γ, r, ds, Γ', e, hp, q⟩
  cases ds with
  | nil => cases e
  | cons d ds =>
    obtain ⟨v, rs, rfl, p1, p2⟩ := hp
    have e : (match bind1 Γ g d with
      | some Γ' => bindL Γ' gs ds
      | none => none) = some Γ' := e
    cases e1 : bind1 Γ g d with
    | none => rw [e1] at e; cases e
    | some Γ1 =>
      rw [e1] at e
      exact ⟨v, rs, rfl, Z, M, Γ, r, d, Γ1, e1, p1, fun σ1 r1 q1 => ⟨Z, M, Γ1, r1, ds, Γ', e, p2, fun σ2 r2 q2 => q σ2 r2 (q1.trans q2)⟩⟩
theorem bindL_len : ∀ {gs : Tgs} {Γ Γ' : Env} {ds : List D}, bindL Γ gs ds = some Γ' → ds.length = gs.len
  | .nil, Γ, Γ', [], _ => rfl
  | .nil, Γ, Γ', _ :: _, e => by cases e
  | .cons g gs, Γ, Γ', [], e => by cases e
  | .cons g gs, Γ, Γ', d :: ds, e => by
    have e : (match bind1 Γ g d with
      | some Γ' => bindL Γ' gs ds
      | none => none) = some Γ' := e
    cases e1 : bind1 Γ g d with
    | none => rw [e1] at e; cases e
    | some Γ1 =>
      rw [e1] at e
      exact congrArg (· + 1) (bindL_len e)
theorem g_tp {B : List Nat} {es : List Expr} {k : Nat} {gs : Tgs} (G : Gd X) (h : PGs X es (tGs (kb X C) B fun Γ => bindL Γ gs)) (hn : (assignEach es X.env).length = gs.len := by rfl) (hst : (assignEach es X.env).findIdx? (·.1) = none := by rfl) :
    PG X (.Tuple es k pos) (tG (kb X C) B fun Γ => bind1 Γ (.tp gs)) := by
  refine PG.le (pg_tup G.calm h hn hst) ?_
  rintro v σ H Q ⟨Z, M, Γ, r, d, Γ', e, hp, q⟩
  cases d with
  | tup xs =>
    have e : bindL Γ gs xs = some Γ' := e
    obtain ⟨a, vs, rfl, ra, ha⟩ := hp
    exact ⟨a, vs, rfl, ra.sq, by rw [← ha.len, bindL_len e], Z, M, Γ, r, xs, Γ', e, ha, q⟩
  | _ => cases e
end
end Dn
end

section
set_option linter.all false
set_option autoImplicit false
set_option maxRecDepth 10000
/-! DnG: what is walked; statements. -/
namespace Dn
open PySem PySem.Spec PyProof.Rows L2

def Kp (H0 : Hp) (A0 : AS) (H : Hp) (A : AS) : Prop := ∀ a o, H0 a = some o → ¬ A0 a → H a = some o ∧ ¬ A a
theorem Kp.refl {H : Hp} {A : AS} : Kp H A H A := fun _ _ e n => ⟨e, n⟩
theorem Kp.trans {H0 H1 H2 : Hp} {A0 A1 A2 : AS} (a : Kp H0 A0 H1 A1) (b : Kp H1 A1 H2 A2) : Kp H0 A0 H2 A2 := fun x o e n => let ⟨e1, n1⟩ := a x o e n; b x o e1 n1
/-- a walk over data: at turn i the i-th datum is given, perhaps as a new object -/
def DW (K : KB) (J : It) (H0 : Hp) (A0 : AS) (xs : List D) : Prop :=
  ∃ (G : Hp → Prop) (Y : Nat → Hp → V → Hp → Prop), Walk J xs.length G Y ∧ (∀ H A, Kp H0 A0 H A → G H) ∧
    ∀ i H v H' A, i < xs.length → Kp H0 A0 H A → (∀ a, H a = none → ¬ A a) → Y i H v H' → (H' = H ∨ ∃ p o, H p = none ∧ H' = upd H p o) ∧ ∃ d, xs[i]? = some d ∧ Rp K H' A d v
section
variable {K : KB} {H0 : Hp} {A0 : AS}
theorem dw_list {a : Addr} {xs : List D} {vs : List V} (na : ¬ A0 a) (e : H0 a = some (.lst vs) ∨ ∃ o, H0 a = some (.frz o (.lst vs))) (h : Rps K H0 A0 xs vs) : DW K (Itl K.k a) H0 A0 xs := by
  have hl := h.len
  refine ⟨fun H => SqL K.k H a vs, YAt vs, by rw [hl]; exact walk_list, fun H A k => ?_, fun i H v H' A hi k dom y => ?_⟩
  · rcases e with e | ⟨o, e⟩
    · exact .inl (.inl (k a _ e na).1)
    · exact .inl (.inr ⟨o, (k a _ e na).1⟩)
  · obtain ⟨rfl, y⟩ := y
    obtain ⟨d, e1, hp⟩ := h.get' y
    exact ⟨.inl rfl, d, e1, hp.mono k _ _⟩
theorem dw_tup {a : Addr} {xs : List D} {vs : List V} (ra : RdT K.k H0 A0 a vs) (h : Rps K H0 A0 xs vs) : DW K (Itt K.k a) H0 A0 xs := by
  have hl := h.len
  refine ⟨fun H => SqT K.k H a vs, YAt vs, by rw [hl]; exact walk_tup, fun H A k => ?_, fun i H v H' A hi k dom y => ?_⟩
  · rcases ra with ⟨na, e⟩ | e
    · exact .inl (.inl (k a _ e na).1)
    · exact .inr e
  · obtain ⟨rfl, y⟩ := y
    obtain ⟨d, e1, hp⟩ := h.get' y
    exact ⟨.inl rfl, d, e1, hp.mono k _ _⟩
theorem rangeD_get {lo hi : Int} {i : Nat} (h : i < (hi - lo).toNat) : (rangeD lo hi)[i]? = some (.int (lo + (i : Nat))) := by
  unfold rangeD
  rw [List.getElem?_map, List.getElem?_range h]
  rfl
theorem rangeD_len {lo hi : Int} : (rangeD lo hi).length = (hi - lo).toNat := by unfold rangeD; rw [List.length_map, List.length_range]
theorem dw_range {lo hi : Int} : DW K (Itr lo (hi - lo).toNat) H0 A0 (rangeD lo hi) := by
  refine ⟨fun _ => True, YFn fun i => .int (lo + i), by rw [rangeD_len]; exact walk_range, fun _ _ _ => trivial, fun i H v H' A hi k dom y => ?_⟩
  obtain ⟨rfl, rfl⟩ := y
  rw [rangeD_len] at hi
  exact ⟨.inl rfl, _, rangeD_get hi, rfl⟩
theorem enum_get : ∀ {xs : List D} {n i : Nat}, (enumFrom n xs)[i]? = (xs[i]?).map fun x => .tup [.int ((n + i : Nat) : Int), x]
  | [], n, i => by simp [enumFrom]
  | x :: xs, n, 0 => by simp [enumFrom]
  | x :: xs, n, i + 1 => by
    have := enum_get (xs := xs) (n := n + 1) (i := i)
    simp only [enumFrom, List.getElem?_cons_succ, this]
    rw [show n + 1 + i = n + (i + 1) by omega]
theorem enum_len : ∀ {xs : List D} {n : Nat}, (enumFrom n xs).length = xs.length
  | [], _ => rfl
  | x :: xs, n => by simp [enumFrom, enum_len]
theorem rp_pair {H : Hp} {A : AS} {T : Addr} {d e : D} {x y : V} (dom : ∀ a, H a = none → ¬ A a) (n : H T = none) (h1 : Rp K H A d x) (h2 : Rp K H A e y) : Rp K (upd H T (.tup [x, y])) A (.tup [d, e]) (.ref T) := by
  have k : ∀ a o, H a = some o → ¬ A a → upd H T (.tup [x, y]) a = some o ∧ ¬ A a := fun a o e na => ⟨by rw [upd_ne (ne_of_none e n)]; exact e, na⟩
  exact ⟨T, [x, y], rfl, .inl ⟨dom T n, upd_same⟩, x, [y], rfl, h1.mono k _ _, y, [], rfl, h2.mono k _ _, rfl⟩
theorem dw_enum {a : Addr} {xs : List D} {vs : List V} (na : ¬ A0 a) (e : H0 a = some (.lst vs) ∨ ∃ o, H0 a = some (.frz o (.lst vs))) (h : Rps K H0 A0 xs vs) : DW K (Ite K.k a) H0 A0 (enumFrom 0 xs) := by
  have hl := h.len
  refine ⟨fun H => SqL K.k H a vs, YPair (fun i => some (.int (i : Nat))) (fun i => vs[i]?), by rw [enum_len, hl]; exact walk_enum, fun H A k => ?_, fun i H v H' A hi k dom y => ?_⟩
  · rcases e with e | ⟨o, e⟩
    · exact .inl (.inl (k a _ e na).1)
    · exact .inl (.inr ⟨o, (k a _ e na).1⟩)
  · obtain ⟨T, x, y, rfl, n, rfl, e1, e2⟩ := y
    cases e1
    obtain ⟨d, e3, hp⟩ := h.get' e2
    refine ⟨.inr ⟨T, _, n, rfl⟩, .tup [.int ((0 + i : Nat) : Int), d], by rw [enum_get, e3]; rfl, ?_⟩
    rw [Nat.zero_add]
    exact rp_pair dom n rfl (hp.mono k _ _)
theorem zip_get : ∀ {xs ys : List D} {i : Nat} {x y : D}, xs[i]? = some x → ys[i]? = some y → (zipD xs ys)[i]? = some (.tup [x, y])
  | x :: xs, y :: ys, 0, _, _, e1, e2 => by simp at e1 e2; subst e1 e2; rfl
  | x :: xs, y :: ys, i + 1, _, _, e1, e2 => by
    have := zip_get (xs := xs) (ys := ys) (i := i) (by simpa using e1) (by simpa using e2)
    simpa [zipD] using this
  | [], _, _, _, _, e1, _ => by simp at e1
  | _ :: _, [], _, _, _, _, e2 => by simp at e2
theorem zip_len : ∀ {xs ys : List D}, (zipD xs ys).length = min xs.length ys.length
  | [], _ => by simp [zipD]
  | _ :: _, [] => by simp [zipD]
  | x :: xs, y :: ys => by
    have := zip_len (xs := xs) (ys := ys)
    show (zipD xs ys).length + 1 = min (xs.length + 1) (ys.length + 1)
    omega
theorem dw_zipL {a b : Addr} {xs ys : List D} {vs ws : List V} (na : ¬ A0 a) (nb : ¬ A0 b) (e : H0 a = some (.lst vs)) (e' : H0 b = some (.lst ws)) (h : Rps K H0 A0 xs vs) (h' : Rps K H0 A0 ys ws) : DW K (Itz K.k a b) H0 A0 (zipD xs ys) := by
  have hl := h.len
  have hl' := h'.len
  refine ⟨fun H => SqL K.k H a vs ∧ SqL K.k H b ws, YPair (fun i => vs[i]?) (fun i => ws[i]?), by rw [zip_len, hl, hl']; exact walk_zip rfl, fun H A k => ⟨.inl (.inl (k a _ e na).1), .inl (.inl (k b _ e' nb).1)⟩, fun i H v H' A hi k dom y => ?_⟩
  obtain ⟨T, x, y, rfl, n, rfl, e1, e2⟩ := y
  obtain ⟨d, e3, hp⟩ := h.get' e1
  obtain ⟨d', e4, hp'⟩ := h'.get' e2
  exact ⟨.inr ⟨T, _, n, rfl⟩, _, zip_get e3 e4, rp_pair dom n (hp.mono k _ _) (hp'.mono k _ _)⟩
theorem walk_zipT {a b : Addr} {xs ys : List V} {n : Nat} (hn : n = min xs.length ys.length) : Walk (RZ.ItzT K.k a b) n (fun H => SqT K.k H a xs ∧ SqT K.k H b ys) (YPair (fun i => xs[i]?) (fun i => ys[i]?)) := by
  refine ⟨fun i H hi g => ?_, fun H g => ?_, fun i H v H' hi g y => ?_⟩
  · have h1 : i < xs.length := by omega
    have h2 : i < ys.length := by omega
    exact ⟨xs, ys, _, _, g.1, g.2, List.getElem?_eq_getElem h1, List.getElem?_eq_getElem h2⟩
  · exact ⟨xs, ys, g.1, g.2, by omega⟩
  · obtain ⟨T, x, y, e, hn, eh, e1, e2⟩ := y
    exact ⟨T, x, y, e, hn, eh, e1 _ g.1, e2 _ g.2⟩
theorem dw_zipT {a b : Addr} {xs ys : List D} {vs ws : List V} (e : RdT K.k H0 A0 a vs) (e' : RdT K.k H0 A0 b ws) (h : Rps K H0 A0 xs vs) (h' : Rps K H0 A0 ys ws) : DW K (RZ.ItzT K.k a b) H0 A0 (zipD xs ys) := by
  have hl := h.len
  have hl' := h'.len
  have sq : ∀ {c : Addr} {us : List V} {H : Hp} {A : AS}, RdT K.k H0 A0 c us → Kp H0 A0 H A → SqT K.k H c us := fun {c us H A} r k => by
    rcases r with ⟨na, e⟩ | e
    · exact .inl (.inl (k c _ e na).1)
    · exact .inr e
  refine ⟨fun H => SqT K.k H a vs ∧ SqT K.k H b ws, YPair (fun i => vs[i]?) (fun i => ws[i]?), by rw [zip_len, hl, hl']; exact walk_zipT rfl, fun H A k => ⟨sq e k, sq e' k⟩, fun i H v H' A hi k dom y => ?_⟩
  obtain ⟨T, x, y, rfl, n, rfl, e1, e2⟩ := y
  obtain ⟨d, e3, hp⟩ := h.get' e1
  obtain ⟨d', e4, hp'⟩ := h'.get' e2
  exact ⟨.inr ⟨T, _, n, rfl⟩, _, zip_get e3 e4, rp_pair dom n (hp.mono k _ _) (hp'.mono k _ _)⟩
end
def tI (K : KB) (f : Env → Res (List D)) : TI := fun σ H R => ∃ Z M Γ, Rel K Z Γ σ H M ∧ ∃ xs Γ', f Γ = .ok xs Γ' ∧
  ∀ J H' M', Rel K Z Γ' σ H' M' → Fr H M H' M' → DW K J H' (un M' Z) xs → R J H'
theorem PI.le {X : Cx} {tg it : Expr} {t t' : TI} (h : PI X tg it t') (k : ∀ σ H R, t σ H R → t' σ H R) : PI X tg it t := ⟨fun pins s σ H R I q => h.run pins s σ H R I (k σ H R q)⟩
section
variable {X : Cx} {C : Cl} {cf : CallF} {pos p : Pos} {tg : Expr}
/-- two things walked in one judgement -/
theorem pi_or {it : Expr} {t t' : TI} (h : PI X tg it t) (h' : PI X tg it t') : PI X tg it (fun σ H R => t σ H R ∨ t' σ H R) := ⟨fun pins s σ H R I q => q.elim (h.run pins s σ H R I) (h'.run pins s σ H R I)⟩
/-- a list or tuple, by its value -/
def iLT (K : PySem.W.Frag) (tl : TE) : TI := fun σ H R => tl σ H fun x H1 => ∃ a, x = .ref a ∧ (((∃ xs, SqL K H1 a xs) ∧ R (Itl K a) H1) ∨ ((∃ xs, SqT K H1 a xs) ∧ R (Itt K a) H1))
theorem pi_lt {l : Expr} {tl : TE} (hl : PE X l tl) : PI X tg l (iLT X.K tl) := by
  refine ⟨fun pins s σ H R I h => ?_⟩
  refine thn (hl.run pins s σ H _ I h) fun u s1 ⟨x, H1, J1, rx, a, ea, q⟩ => ?_
  subst ea
  obtain rfl : u = .ref a := rx
  have kp := fun o => J1.kept (h' := s1.heap.push o) (t' := s1.toks) fun b o e => Heap.get?_push_of_some _ e
  have fp : ∀ b ∈ [s1.heap.objs.size], FpOk X pins H1 b := fun b hb => by
    obtain rfl : b = s1.heap.objs.size := List.mem_singleton.mp hb
    exact J1.fpOk (Nat.le_refl _) (J1.hok.fresh (Nat.le_refl _))
  rcases q with ⟨⟨xs, hq⟩, q⟩ | ⟨⟨xs, hq⟩, q⟩
  · obtain ⟨its, rv, pl, hz⟩ := J1.list hq
    refine wpAny_pyIter_list pl.isList ?_
    exact ⟨_, [_], _, _, H1, rfl, kp _, turn_list a _, ⟨_, Heap.get?_push_size _ rfl, rfl, rfl⟩, fp, q⟩
  · obtain ⟨its, rv, pl, hz⟩ := J1.tuple hq
    refine wpAny_pyIter_tuple (show s1.heap.IsTuple a its.toArray from pl) ?_
    exact ⟨_, [_], _, _, H1, rfl, kp _, turn_tuple a _, ⟨_, Heap.get?_push_size _ rfl, rfl, rfl⟩, fp, q⟩
/-- any sequence -/
theorem i_seq {a : E} {it : Expr} (h : PE X it (tE (kb X C) (evE cf a))) : PI X tg it (tI (kb X C) (evI cf (.seq a))) := by
  refine PI.le (pi_lt h) ?_
  rintro σ H R ⟨Z, M, Γ, r, xs, Γ', e, q⟩
  unfold evI at e
  obtain ⟨x, Γ1, e1, e2⟩ := Res.bind_ok e
  obtain ⟨e3, rfl⟩ := liftO_ok e2
  refine ⟨Z, M, Γ, r, x, _, e1, fun v H1 M1 r1 f1 rv => ?_⟩
  obtain ⟨M2, r2, f2, hp⟩ := rv.frozen r1
  have q' := fun J => q J H1 M2 r2 (f1.trans f2)
  cases hx : x.1 with
  | tup ys =>
    rw [hx] at hp e3
    cases e3
    obtain ⟨a, vs, rfl, ra, ha⟩ := hp
    exact ⟨a, rfl, .inr ⟨⟨_, ra.sq⟩, q' _ (dw_tup ra ha)⟩⟩
  | lst ys =>
    rw [hx] at hp e3
    cases e3
    obtain ⟨a, vs, rfl, na, ra, ha⟩ := hp
    exact ⟨a, rfl, .inl ⟨⟨_, .inl (.inl ra)⟩, q' _ (dw_list na (.inl ra) ha)⟩⟩
  | fz ys =>
    rw [hx] at hp e3
    cases e3
    obtain ⟨a, o, vs, rfl, na, ra, ha⟩ := hp
    exact ⟨a, rfl, .inl ⟨⟨_, .inl (.inr ⟨o, ra⟩)⟩, q' _ (dw_list na (.inr ⟨o, ra⟩) ha)⟩⟩
  | _ => rw [hx] at e3; cases e3
theorem inR_ok {i : Int} (h : inR i = true) : -(2 ^ 62) ≤ i ∧ i < 2 ^ 62 := of_decide_eq_true h
theorem i_rng1 {a : Expr} {pa : P} (hg : Gl X "range") (hm : X.mg "range" = none) (ha : PE X a (tP (kb X C) (evP cf pa))) (hs : noStar a = true := by rfl) :
    PI X tg (.Call (.Name "range" p) [a] [] pos) (tI (kb X C) (evI cf (.rng1 pa))) := by
  refine PI.le (pi_range1 hg hm (pa_cons ha pa_nil (star1 hs)) (star1 hs)) ?_
  rintro σ H R ⟨Z, M, Γ, r, xs, Γ', e, q⟩
  unfold evI at e
  obtain ⟨x, Γ1, e1, e2⟩ := Res.bind_ok e
  refine ⟨Z, M, Γ, r, x, _, e1, fun v H1 M1 r1 f1 hv => ?_⟩
  split at e2
  · rename_i i ex
    split at e2
    · rename_i hi
      cases e2
      obtain rfl : v = .int i := (hv.rx r1 ex).rp rfl
      obtain ⟨h1, h2⟩ := inR_ok hi
      refine ⟨i, rfl, h1, h2, ?_⟩
      have := q (Itr 0 (i - 0).toNat) H1 M1 r1 f1 dw_range
      rwa [Int.sub_zero] at this
    · cases e2
  · cases e2
theorem i_rng2 {a b : Expr} {pa pb : P} (hg : Gl X "range") (hm : X.mg "range" = none) (ha : PE X a (tP (kb X C) (evP cf pa))) (hb : PE X b (tP (kb X C) (evP cf pb))) (hs : noStar a = true := by rfl) (hs' : noStar b = true := by rfl) :
    PI X tg (.Call (.Name "range" p) [a, b] [] pos) (tI (kb X C) (evI cf (.rng2 pa pb))) := by
  refine PI.le (pi_range2 hg hm (pa_cons ha (pa_cons hb pa_nil (star1 hs')) (star1 hs)) (by rw [star1 hs, star1 hs']; rfl) (by rw [star1 hs']; rfl)) ?_
  rintro σ H R ⟨Z, M, Γ, r, xs, Γ', e, q⟩
  unfold evI at e
  obtain ⟨x, Γ1, e1, e2⟩ := Res.bind_ok e
  obtain ⟨y, Γ2, e3, e4⟩ := Res.bind_ok e2
  refine ⟨Z, M, Γ, r, x, _, e1, fun v H1 M1 r1 f1 hv => ⟨Z, M1, Γ1, r1, y, _, e3, fun w H2 M2 r2 f2 hw => ?_⟩⟩
  split at e4
  · rename_i i j ex ey
    split at e4
    · rename_i hi
      cases e4
      obtain rfl : v = .int i := ((hv.mono r1.zm f2).rx r2 ex).rp rfl
      obtain rfl : w = .int j := (hw.rx r2 ey).rp rfl
      obtain ⟨hi, hj⟩ := Bool.and_eq_true_iff.mp hi
      exact ⟨i, j, rfl, ⟨(inR_ok hi).1, (inR_ok hi).2, (inR_ok hj).1, (inR_ok hj).2⟩, q _ H2 M2 r2 (f1.trans f2) dw_range⟩
    · cases e4
  · cases e4
end
/-! ### statements -/
/-- an exception's dict -/
def ExAt (K : KB) (H : Hp) (A : AS) (d : D) (dx : Addr) : Prop := ∃ w, ¬ A dx ∧ H dx = some (.xd [("value", w)]) ∧ Rp K H A d w
def SEnd (K : KB) (W : WX) (Z : AS) (B : List Nat) (D : Ends) (σ : L2.St) (H : Hp) (M : AS) : SRes → Prop
  | .nx Γ' => ∀ σ' H' M', Rel K Z Γ' σ' H' M' → Fr H M H' M' → Eqs B σ σ' → D.nx σ' H'
  | .bk Γ' => ∀ σ' H' M', Rel K Z Γ' σ' H' M' → Fr H M H' M' → Eqs B σ σ' → D.bk σ' H'
  | .ct Γ' => ∀ σ' H' M', Rel K Z Γ' σ' H' M' → Fr H M H' M' → Eqs B σ σ' → D.ct σ' H'
  | .rt d fr Γ' => ∀ v σ' H' M', Rel K Z Γ' σ' H' M' → Fr H M H' M' → Eqs B σ σ' → RVal K Z Γ' σ' H' M' d fr v → D.rt v H'
  | .ex c d Γ' => ∀ σ' H' M' dx, Rel K Z Γ' σ' H' M' → Fr H M H' M' → Eqs B σ σ' → ExAt K H' (un M' Z) d dx → W (.ref (He.ga K.k c)) (some dx) σ' H'
  | .no => False
def tS (K : KB) (W : WX) (B : List Nat) (f : Env → SRes) : TS := fun D σ H => ∃ Z M Γ, Rel K Z Γ σ H M ∧ SEnd K W Z B D σ H M (f Γ)
section
variable {K : KB} {W : WX} {Z : AS} {B : List Nat} {D : Ends} {σ σ1 : L2.St} {H H1 : Hp} {M M1 : AS} {res : SRes}
theorem SEnd.on (q : SEnd K W Z B D σ H M res) (f : Fr H M H1 M1) (e : Eqs B σ σ1) : SEnd K W Z B D σ1 H1 M1 res := by
  cases res with
  | nx Γ => exact fun σ2 H2 M2 r2 f2 q2 => q σ2 H2 M2 r2 (f.trans f2) (e.trans q2)
  | bk Γ => exact fun σ2 H2 M2 r2 f2 q2 => q σ2 H2 M2 r2 (f.trans f2) (e.trans q2)
  | ct Γ => exact fun σ2 H2 M2 r2 f2 q2 => q σ2 H2 M2 r2 (f.trans f2) (e.trans q2)
  | rt d fr Γ => exact fun v σ2 H2 M2 r2 f2 q2 => q v σ2 H2 M2 r2 (f.trans f2) (e.trans q2)
  | ex c d Γ => exact fun σ2 H2 M2 dx r2 f2 q2 => q σ2 H2 M2 dx r2 (f.trans f2) (e.trans q2)
  | no => exact q
end
section
variable {X : Cx} {C : Cl} {W : WX} {cf : CallF} {pos : Pos} {B : List Nat}
theorem ss_nil : PSs X [] (tS (kb X C) W B (evSs cf .nil)) := by
  refine PSs.le pss_nil ?_
  rintro D σ H ⟨Z, M, Γ, r, q⟩
  exact q σ H M r Fr.refl Eqs.refl
theorem ss_cons {st : Stmt} {rest : List Stmt} {a : S} {b : Ss} (h1 : PS X st (tS (kb X C) W B (evS cf a))) (h2 : PSs X rest (tS (kb X C) W B (evSs cf b))) : PSs X (st :: rest) (tS (kb X C) W B (evSs cf (.cons a b))) := by
  refine PSs.le (pss_cons h1 h2) ?_
  rintro D σ H ⟨Z, M, Γ, r, q⟩
  refine ⟨Z, M, Γ, r, ?_⟩
  have q : SEnd (kb X C) W Z B D σ H M (match evS cf a Γ with | .nx Γ1 => evSs cf b Γ1 | z => z) := q
  cases e : evS cf a Γ with
  | nx Γ1 => rw [e] at q; exact fun σ1 H1 M1 r1 f1 q1 => ⟨Z, M1, Γ1, r1, SEnd.on q f1 q1⟩
  | bk Γ1 => rw [e] at q; exact q
  | ct Γ1 => rw [e] at q; exact q
  | rt d fr Γ1 => rw [e] at q; exact q
  | ex c d Γ1 => rw [e] at q; exact q
  | no => rw [e] at q; exact q
theorem s_bad {st : Stmt} : PS X st (tS (kb X C) W B (evS cf .bad)) := by
  refine PS.le ps_never ?_
  rintro D σ H ⟨Z, M, Γ, r, q⟩
  exact q
theorem s_pass : PS X (.Pass pos) (tS (kb X C) W B (evS cf .pass)) := by
  refine PS.le ps_pass ?_
  rintro D σ H ⟨Z, M, Γ, r, q⟩
  exact q σ H M r Fr.refl Eqs.refl
theorem s_brk : PS X (.Break pos) (tS (kb X C) W B (evS cf .brk)) := by
  refine PS.le ps_break ?_
  rintro D σ H ⟨Z, M, Γ, r, q⟩
  exact q σ H M r Fr.refl Eqs.refl
theorem s_cnt : PS X (.Continue pos) (tS (kb X C) W B (evS cf .cnt)) := by
  refine PS.le ps_continue ?_
  rintro D σ H ⟨Z, M, Γ, r, q⟩
  exact q σ H M r Fr.refl Eqs.refl
def noComp : Expr → Bool
  | .ListComp _ _ _ _ => false
  | .SetComp _ _ _ _ => false
  | .DictComp _ _ _ _ _ => false
  | _ => true
theorem swaps_no {e : Expr} {t : Option Expr} {l : Nat} {env : PySem.Env} (h : noComp e = true) : swapsWith e t l env = pure false := by
  cases e <;> first | rfl | cases h
theorem s_expr {e : Expr} {a : E} (he : PE X e (tE (kb X C) (evE cf a))) (hs : noComp e = true := by rfl) : PS X (.Expr e pos) (tS (kb X C) W B (evS cf (.expr a))) := by
  refine PS.le (ps_expr he (swaps_no hs)) ?_
  rintro D σ H ⟨Z, M, Γ, r, q⟩
  unfold evS at q
  cases e1 : evE cf a Γ with
  | ok x Γ1 => rw [e1] at q; exact ⟨Z, M, Γ, r, x, Γ1, e1, fun v H1 M1 r1 f1 rv => q σ H1 M1 r1 f1 Eqs.refl⟩
  | no => rw [e1] at q; exact q.elim
theorem s_ret {e : Expr} {a : E} (he : PE X e (tE (kb X C) (evE cf a))) : PS X (.Return (some e) pos) (tS (kb X C) W B (evS cf (.ret a))) := by
  refine PS.le (ps_ret he) ?_
  rintro D σ H ⟨Z, M, Γ, r, q⟩
  unfold evS at q
  cases e1 : evE cf a Γ with
  | ok x Γ1 => rw [e1] at q; exact ⟨Z, M, Γ, r, x, Γ1, e1, fun v H1 M1 r1 f1 rv => q v σ H1 M1 r1 f1 Eqs.refl rv⟩
  | no => rw [e1] at q; exact q.elim
theorem s_retn : PS X (.Return none pos) (tS (kb X C) W B (evS cf .retn)) := by
  refine PS.le ps_retN ?_
  rintro D σ H ⟨Z, M, Γ, r, q⟩
  exact q .non σ H M r Fr.refl Eqs.refl rfl
/-- return of a name's own object -/
theorem s_retv {e : Expr} {i : Nat} (he : PE X e (tVar i)) : PS X (.Return (some e) pos) (tS (kb X C) W B (evS cf (.retv i))) := by
  refine PS.le (ps_ret he) ?_
  rintro D σ H ⟨Z, M, Γ, r, q⟩
  unfold evS at q
  split at q
  · rename_i d es
    obtain ⟨a, e3, m, o⟩ := r.sl i _ es
    refine ⟨_, e3, q _ σ H M ?_ Fr.refl Eqs.refl ?_⟩
    · refine ⟨by rw [List.length_set]; exact r.len, fun j s z => ?_, fun j l s t b hne qs qt os ot hj => ?_, r.zm, r.zd, r.md, r.tb, r.nc⟩
      · rcases get_set z with ⟨rfl, rfl⟩ | ⟨h1, z⟩
        · trivial
        · exact r.sl j s z
      · rcases get_set qs with ⟨rfl, rfl⟩ | ⟨h1, qs'⟩
        · cases os
        · rcases get_set qt with ⟨rfl, rfl⟩ | ⟨h2, qt'⟩
          · cases ot
          · exact r.inj j l s t b hne qs' qt' os ot hj
    · unfold RVal
      rw [if_pos rfl]
      refine ⟨a, rfl, m, o, fun j s z os hj => ?_⟩
      rcases get_set z with ⟨rfl, rfl⟩ | ⟨h1, z⟩
      · cases os
      · exact r.inj i j _ s a h1 es z rfl os e3 hj
  · rename_i d es
    obtain ⟨w, e3, hp⟩ := r.sl i _ es
    exact ⟨w, e3, q w σ H M r Fr.refl Eqs.refl hp⟩
  · exact q.elim
theorem s_ite {c : Expr} {a b : List Stmt} {t : T} {sa sb : Ss} (hc : PT X c (tT (kb X C) (evT cf t))) (ha : PSs X a (tS (kb X C) W B (evSs cf sa))) (hb : PSs X b (tS (kb X C) W B (evSs cf sb))) : PS X (.If c a b pos) (tS (kb X C) W B (evS cf (.ite t sa sb))) := by
  refine PS.le (ps_if hc ha hb) ?_
  rintro D σ H ⟨Z, M, Γ, r, q⟩
  have q : SEnd (kb X C) W Z B D σ H M (match evT cf t Γ with | .ok true Γ1 => evSs cf sa Γ1 | .ok false Γ1 => evSs cf sb Γ1 | .no => .no) := q
  cases e1 : evT cf t Γ with
  | ok x Γ1 =>
    rw [e1] at q
    refine ⟨Z, M, Γ, r, x, Γ1, e1, fun H1 M1 r1 f1 => ?_⟩
    cases x with
    | true => rw [if_pos rfl]; exact ⟨Z, M1, Γ1, r1, SEnd.on q f1 Eqs.refl⟩
    | false => rw [if_neg Bool.false_ne_true]; exact ⟨Z, M1, Γ1, r1, SEnd.on q f1 Eqs.refl⟩
  | no => rw [e1] at q; exact q.elim
theorem s_whl {c : Expr} {b : List Stmt} {t : T} {sb : Ss} (G : Gd X) (hc : PT X c (tT (kb X C) (evT cf t))) (hb : PSs X b (tS (kb X C) W B (evSs cf sb))) : PS X (.While c b [] pos) (tS (kb X C) W B (evS cf (.whl t sb))) := by
  refine PS.le (ps_while G.po hc hb) ?_
  rintro D σ H ⟨Z, M, Γ, r, q⟩
  have q : SEnd (kb X C) W Z B D σ H M (whlL (fun Γ => evT cf t Γ) (fun Γ => evSs cf sb Γ) fuelW Γ) := q
  refine ⟨fun m σ' H' => ∃ M' Γ', Rel (kb X C) Z Γ' σ' H' M' ∧ SEnd (kb X C) W Z B D σ' H' M' (whlL (fun Γ => evT cf t Γ) (fun Γ => evSs cf sb Γ) m Γ'), ⟨fuelW, M, Γ, r, q⟩, ?_⟩
  rintro m σ1 H1 ⟨M1, Γ1, r1, q1⟩
  cases m with
  | zero => exact q1.elim
  | succ m =>
    unfold whlL at q1
    cases e1 : evT cf t Γ1 with
    | no => rw [e1] at q1; exact q1.elim
    | ok x Γ2 =>
      rw [e1] at q1
      refine ⟨Z, M1, Γ1, r1, x, Γ2, e1, fun H2 M2 r2 f2 => ?_⟩
      cases x with
      | false => rw [if_neg Bool.false_ne_true]; exact q1 σ1 H2 M2 r2 f2 Eqs.refl
      | true =>
        rw [if_pos rfl]
        refine ⟨fun σ' H' => ∃ M' Γ', Rel (kb X C) Z Γ' σ' H' M' ∧ SEnd (kb X C) W Z B D σ' H' M' (whlL (fun Γ => evT cf t Γ) (fun Γ => evSs cf sb Γ) m Γ'), fun σ' H' w => ⟨m, Nat.lt_succ_self m, w⟩, Z, M2, Γ2, r2, ?_⟩
        dsimp only at q1
        cases e2 : evSs cf sb Γ2 with
        | nx Γ3 => rw [e2] at q1; exact fun σ3 H3 M3 r3 f3 e3 => ⟨M3, Γ3, r3, SEnd.on q1 (f2.trans f3) e3⟩
        | ct Γ3 => rw [e2] at q1; exact fun σ3 H3 M3 r3 f3 e3 => ⟨M3, Γ3, r3, SEnd.on q1 (f2.trans f3) e3⟩
        | bk Γ3 => rw [e2] at q1; exact fun σ3 H3 M3 r3 f3 e3 => q1 σ3 H3 M3 r3 (f2.trans f3) e3
        | rt d fr Γ3 => rw [e2] at q1; exact fun v σ3 H3 M3 r3 f3 e3 rv => q1 v σ3 H3 M3 r3 (f2.trans f3) e3 rv
        | ex c d Γ3 => rw [e2] at q1; exact fun σ3 H3 M3 dx r3 f3 e3 he => q1 σ3 H3 M3 dx r3 (f2.trans f3) e3 he
        | no => rw [e2] at q1; exact q1.elim
theorem s_for {tg it : Expr} {b : List Stmt} {g : Tg} {i : I} {sb : Ss} (G : Gd X) (hi : PI X tg it (tI (kb X C) (evI cf i))) (hg : PG X tg (tG (kb X C) B fun Γ => bind1 Γ g)) (hb : PSs X b (tS (kb X C) W B (evSs cf sb)))
    (hs : ∀ x, foldedSetIterable it X.env x = pure x := by intro _; rfl) : PS X (.For tg it b [] pos) (tS (kb X C) W B (evS cf (.for_ g i sb))) := by
  refine PS.le (ps_for G.po G.calm hi hg hb hs) ?_
  rintro D σ H ⟨Z, M, Γ, r, q⟩
  generalize hst : (fun x Γ => match bind1 Γ g x with | some Γ' => evSs cf sb Γ' | none => .no) = step
  have q : SEnd (kb X C) W Z B D σ H M (match evI cf i Γ with | .ok xs Γ1 => forL step xs Γ1 | .no => .no) := by rw [← hst]; exact q
  cases e1 : evI cf i Γ with
  | no => rw [e1] at q; exact q.elim
  | ok xs Γ1 =>
    rw [e1] at q
    refine ⟨Z, M, Γ, r, xs, Γ1, e1, fun J H1 M1 r1 f1 dw => ?_⟩
    obtain ⟨GG, Y, w, hG, hY⟩ := dw
    have q := SEnd.on q f1 (σ1 := σ) Eqs.refl
    refine for_it w (fun n σ' H' => ∃ M' Γ', Rel (kb X C) Z Γ' σ' H' M' ∧ Kp H1 (un M1 Z) H' (un M' Z) ∧ SEnd (kb X C) W Z B D σ' H' M' (forL step (xs.drop n) Γ'))
      ⟨M1, Γ1, r1, Kp.refl, q⟩ (fun n σ' H' _ ⟨M', Γ', _, k, _⟩ => hG H' _ k) (fun n x σ' H' H'' hn ⟨M', Γ', r', k, q'⟩ y => ?_) fun σ' H' ⟨M', Γ', r', k, q'⟩ => ?_
    · obtain ⟨hH, d, hd, hp⟩ := hY n H' x H'' (un M' Z) hn k (fun a h => r'.dom h) y
      have grow : Rel (kb X C) Z Γ' σ' H'' M' ∧ Fr H' M' H'' M' ∧ Kp H' (un M' Z) H'' (un M' Z) := by
        rcases hH with rfl | ⟨p, o, hnew, rfl⟩
        · exact ⟨r', Fr.refl, Kp.refl⟩
        · exact r'.new hnew o
      obtain ⟨r2, f2, k2⟩ := grow
      have hdrop : xs.drop n = d :: xs.drop (n + 1) := by
        have hlt : n < xs.length := hn
        rw [List.drop_eq_getElem_cons hlt]
        rw [List.getElem?_eq_getElem hlt] at hd
        rw [Option.some.inj hd]
      rw [hdrop] at q'
      have q' : SEnd (kb X C) W Z B D σ' H' M' (match step d Γ' with
        | .nx Γ3 => forL step (xs.drop (n + 1)) Γ3
        | .ct Γ3 => forL step (xs.drop (n + 1)) Γ3
        | .bk Γ3 => .nx Γ3
        | .rt d fr Γ3 => .rt d fr Γ3
        | .ex c d Γ3 => .ex c d Γ3
        | .no => .no) := q'
      have est : step d Γ' = match bind1 Γ' g d with | some Γ' => evSs cf sb Γ' | none => .no := by rw [← hst]
      cases e2 : bind1 Γ' g d with
      | none => rw [est, e2] at q'; exact q'.elim
      | some Γ2 =>
        rw [est, e2] at q'
        refine ⟨Z, M', Γ', r2, d, Γ2, e2, hp, fun σ2 r3 eq2 => ⟨Z, M', Γ2, r3, ?_⟩⟩
        dsimp only at q'
        have kk : ∀ {H3 : Hp} {M3 : AS}, Fr H'' M' H3 M3 → Kp H1 (un M1 Z) H3 (un M3 Z) := fun f3 => (k.trans k2).trans (f3.out r2.zm)
        cases e3 : evSs cf sb Γ2 with
        | nx Γ3 => rw [e3] at q'; exact fun σ3 H3 M3 r4 f4 e4 => ⟨M3, Γ3, r4, kk f4, SEnd.on q' (f2.trans f4) (eq2.trans e4)⟩
        | ct Γ3 => rw [e3] at q'; exact fun σ3 H3 M3 r4 f4 e4 => ⟨M3, Γ3, r4, kk f4, SEnd.on q' (f2.trans f4) (eq2.trans e4)⟩
        | bk Γ3 => rw [e3] at q'; exact fun σ3 H3 M3 r4 f4 e4 => q' σ3 H3 M3 r4 (f2.trans f4) (eq2.trans e4)
        | rt d fr Γ3 => rw [e3] at q'; exact fun v σ3 H3 M3 r4 f4 e4 rv => q' v σ3 H3 M3 r4 (f2.trans f4) (eq2.trans e4) rv
        | ex c d Γ3 => rw [e3] at q'; exact fun σ3 H3 M3 dx r4 f4 e4 he => q' σ3 H3 M3 dx r4 (f2.trans f4) (eq2.trans e4) he
        | no => rw [e3] at q'; exact q'.elim
    · rw [List.drop_length] at q'
      exact q' σ' H' M' r' Fr.refl Eqs.refl
end
end Dn
end

section
set_option linter.all false
set_option autoImplicit false
set_option maxRecDepth 10000
/-! DnH: what changes an object: append, extend, pop, stores by place; assignments. -/
namespace Dn
open PySem PySem.Spec PyProof.Rows L2
section
variable {K : KB} {Z : AS} {Γ Γ' : Env} {σ : L2.St} {H H' : Hp} {M M' : AS}
theorem Rel.owned (r : Rel K Z Γ σ H M) {i : Nat} {d : D} (e : getO Γ i = some d) : ∃ a s, Γ[i]? = some s ∧ s.isOwn = true ∧ σ[i]? = some (some (.ref a)) ∧ M a ∧ Own K H (un M Z) a d := by
  unfold getO at e
  split at e
  · rename_i d' hs
    cases e
    obtain ⟨a, e1, m, o⟩ := r.sl i _ hs
    exact ⟨a, _, hs, rfl, e1, m, o⟩
  · rename_i d' hs
    cases e
    obtain ⟨a, e1, m, o⟩ := r.sl i _ hs
    exact ⟨a, _, hs, rfl, e1, m, o⟩
  · cases e
/-- the owned object of slot i is changed -/
theorem Rel.put (r : Rel K Z Γ σ H M) {i : Nat} {a : Addr} {d : D} {o : HO} (ei : σ[i]? = some (some (.ref a))) (m : M a) (e : putC Γ i d = some Γ') (c : Cont K H (un M Z) d o) :
    Rel K Z Γ' σ (upd H a o) M ∧ Fr H M (upd H a o) M := by
  have k : ∀ b u, H b = some u → ¬ un M Z b → upd H a o b = some u ∧ ¬ un M Z b := fun b u q n => ⟨by rw [upd_ne (fun z => n (.inl (by rw [z]; exact m)))]; exact q, n⟩
  have nn : ∀ b, H b ≠ none → upd H a o b ≠ none := fun b q => by
    by_cases h : b = a
    · rw [h, upd_same]; exact fun z => by cases z
    · rw [upd_ne h]; exact q
  have f : Fr H M (upd H a o) M := ⟨fun b u q n => (by rw [upd_ne (fun z => n (by rw [z]; exact m))]; exact q), fun b => .inl, nn⟩
  have own : Own K (upd H a o) (un M Z) a d := c.own upd_same k
  have go : ∀ s0 s1 : Sl, Γ[i]? = some s0 → s0.isOwn = true → (s1 = .ow d ∨ s1 = .bo d) → Γ' = Γ.set i s1 → Rel K Z Γ' σ (upd H a o) M := by
    rintro s0 s1 h0 o0 h1 rfl
    refine ⟨by rw [List.length_set]; exact r.len, fun j s q => ?_, fun j l s t b hne qs qt os ot hj => ?_, r.zm, fun b z => nn b (r.zd b z), fun b z => nn b (r.md b z), fun p hp => ?_, fun b z x q => ?_⟩
    rotate_left 3
    · by_cases hb : b = a
      · rw [hb, upd_same]
        cases d with
        | lst xs => obtain ⟨vs, e, _⟩ := c; rw [e]; exact fun z => by cases z
        | dct ks xs => obtain ⟨vs, e, _⟩ := c; rw [e]; exact fun z => by cases z
        | _ => exact c.elim
      · rw [upd_ne hb]; exact r.nc b z x q
    rotate_right 1
    · have z := r.sl i _ h0
      have ow : ∃ d0, Own K H (un M Z) a d0 := by
        cases s0 with
        | no => cases o0
        | sh d' => cases o0
        | ow d' => obtain ⟨b, e2, _, h⟩ := z; rw [ei] at e2; cases e2; exact ⟨d', h⟩
        | bo d' => obtain ⟨b, e2, _, h⟩ := z; rw [ei] at e2; cases e2; exact ⟨d', h⟩
      obtain ⟨d0, h⟩ := ow
      exact ⟨(r.tb p hp).1, tab_upd h.noTab h.noCode (r.tb p hp).2⟩
    · rcases get_set q with ⟨rfl, rfl⟩ | ⟨hne, q⟩
      · rcases h1 with rfl | rfl
        · exact ⟨a, ei, m, own⟩
        · exact ⟨a, ei, m, own⟩
      · have z := r.sl j s q
        cases s with
        | no => trivial
        | sh d' => obtain ⟨v, e2, h⟩ := z; exact ⟨v, e2, h.mono k _ _⟩
        | ow d' =>
          obtain ⟨b, e2, mb, h⟩ := z
          exact ⟨b, e2, mb, h.mono (upd_ne fun z => r.inj i j _ _ a hne h0 q o0 rfl ei (by rw [e2, z])) k⟩
        | bo d' =>
          obtain ⟨b, e2, mb, h⟩ := z
          exact ⟨b, e2, mb, h.mono (upd_ne fun z => r.inj i j _ _ a hne h0 q o0 rfl ei (by rw [e2, z])) k⟩
    · have old : ∀ {j : Nat} {s : Sl}, (Γ.set i s1)[j]? = some s → s.isOwn = true → ∃ s', Γ[j]? = some s' ∧ s'.isOwn = true := fun {j s} q o => by
        rcases get_set q with ⟨rfl, rfl⟩ | ⟨hne, q⟩
        · exact ⟨s0, h0, o0⟩
        · exact ⟨s, q, o⟩
      obtain ⟨s', q1, o1⟩ := old qs os
      obtain ⟨t', q2, o2⟩ := old qt ot
      exact r.inj j l s' t' b hne q1 q2 o1 o2 hj
  refine ⟨?_, f⟩
  unfold putC at e
  split at e
  · rename_i d0 hs
    cases e
    exact go _ _ hs rfl (.inl rfl) rfl
  · rename_i d0 hs
    cases e
    exact go _ _ hs rfl (.inr rfl) rfl
  · cases e
theorem isL_ok {o : Option D} (h : isL o = true) : ∃ xs, o = some (.lst xs) := by
  unfold isL at h
  split at h
  · exact ⟨_, rfl⟩
  · cases h
theorem putC_get {d : D} {i : Nat} (h : putC Γ i d = some Γ') : True := trivial
end
section
variable {X : Cx} {C : Cl} {W : WX} {cf : CallF} {pos p2 apos : Pos} {B : List Nat}
/-! ### append, extend, pop -/
theorem few_one {a : Expr} {env : PySem.Env} {pos : Pos} (hs : noStar a = true) : ((backTo pos (starEach (a :: []) env)).all (fun x => !x.1) && (backToKw pos (keywordEach [] env)).all (fun x => x.1.isSome)
      && decide ((a :: []).length + ([] : List Keyword).length + (if ([] : List Keyword).isEmpty then 0 else 1) < 30)) = true := by
  rw [star1 hs]; rfl
theorem s_app {o a : Expr} {i : Nat} {ea : E} (ho : PE X o (tVar i)) (ha : PE X a (tE (kb X C) (evE cf ea))) (hb : attributeBase o "append" X.env (eval o X.env) = eval o X.env := by rfl) (hl : (apos.endLine == p2.line) = true := by rfl) (hs : noStar a = true := by rfl) :
    PS X (.Expr (.Call (.Attribute o "append" apos) [a] [] p2) pos) (tS (kb X C) W B (evS cf (.app i ea))) := by
  refine PS.le (ps_expr (pe_bm PySem.F.plainAttrs_list PySem.F.slot_list_append PySem.F.type_list_append mt_append ho (pa_cons ha pa_nil (star1 hs)) hb (few_one hs) hl (star1 hs) rfl) rfl) ?_
  rintro D σ H ⟨Z, M, Γ, r, q⟩
  unfold evS at q
  split at q
  · rename_i hL
    obtain ⟨xs0, hL⟩ := isL_ok hL
    obtain ⟨a0, s0, _, _, e1, m1, vs0, o1, _⟩ := r.owned hL
    refine ⟨_, e1, .inl ⟨rfl, vs0, .inl (.inl o1)⟩, ?_⟩
    cases e2 : evE cf ea Γ with
    | no => rw [e2] at q; exact q.elim
    | ok x Γ1 =>
      rw [e2] at q
      refine ⟨Z, M, Γ, r, x, Γ1, e2, fun v H1 M1 r1 f1 rv => ?_⟩
      obtain ⟨M2, r2, f2, hp⟩ := rv.frozen r1
      dsimp only at q
      split at q
      · rename_i xs hx
        split at q
        · rename_i hz
          obtain ⟨a1, s1, _, _, e3, m3, vs, o3, hv⟩ := r2.owned hx
          rw [e1] at e3; cases e3
          have hlen := hv.len
          refine ⟨a0, vs, v, rfl, rfl, o3, by rw [← hlen]; exact (len_ok hz).1, ?_⟩
          split at q
          · rename_i Γ2 hp2
            obtain ⟨r3, f3⟩ := r2.put e1 m3 hp2 (o := .lst (vs ++ [v])) ⟨_, rfl, hv.app (Rps.one hp)⟩
            exact q σ _ M2 r3 ((f1.trans f2).trans f3) Eqs.refl
          · exact q.elim
        · exact q.elim
      · exact q.elim
  · exact q.elim
theorem s_ext {o a : Expr} {i : Nat} {pa : P} (ho : PE X o (tVar i)) (ha : PE X a (tP (kb X C) (evP cf pa))) (hb : attributeBase o "extend" X.env (eval o X.env) = eval o X.env := by rfl) (hl : (apos.endLine == p2.line) = true := by rfl) (hs : noStar a = true := by rfl) :
    PS X (.Expr (.Call (.Attribute o "extend" apos) [a] [] p2) pos) (tS (kb X C) W B (evS cf (.ext i pa))) := by
  refine PS.le (ps_expr (pe_bm PySem.F.plainAttrs_list PySem.F.slot_list_extend PySem.F.type_list_extend mt_extend ho (pa_cons ha pa_nil (star1 hs)) hb (few_one hs) hl (star1 hs) rfl) rfl) ?_
  rintro D σ H ⟨Z, M, Γ, r, q⟩
  unfold evS at q
  split at q
  · rename_i hL
    obtain ⟨xs0, hL⟩ := isL_ok hL
    obtain ⟨a0, s0, _, _, e1, m1, vs0, o1, _⟩ := r.owned hL
    refine ⟨_, e1, .inl ⟨rfl, vs0, .inl (.inl o1)⟩, ?_⟩
    cases e2 : evP cf pa Γ with
    | no => rw [e2] at q; exact q.elim
    | ok y Γ1 =>
      rw [e2] at q
      refine ⟨Z, M, Γ, r, y, Γ1, e2, fun v H1 M1 r1 f1 hv => ?_⟩
      dsimp only at q
      split at q
      · rename_i xs zs hx hy
        split at q
        · rename_i hz
          obtain ⟨a1, s1, _, _, e3, m3, vs, o3, hvs⟩ := r1.owned hx
          rw [e1] at e3; cases e3
          obtain ⟨b, ws, rfl, ob, hws⟩ := (hv.rx r1 hy).lst
          refine ⟨a0, b, vs, ws, rfl, rfl, o3, ob, by rw [← hvs.len, ← hws.len]; exact (len_ok hz).2, ?_⟩
          split at q
          · rename_i Γ2 hp2
            obtain ⟨r3, f3⟩ := r1.put e1 m3 hp2 (o := .lst (vs ++ ws)) ⟨_, rfl, hvs.app hws⟩
            exact q σ _ M1 r3 (f1.trans f3) Eqs.refl
          · exact q.elim
        · exact q.elim
      · exact q.elim
  · exact q.elim
theorem ixN_lt {n : Nat} {i : Int} {j : Nat} (h : L2.ixN n i = some j) : j < n := (ixN_seq h).2.1
theorem e_popA {o a : Expr} {i : Nat} {pk : P} (ho : PE X o (tVar i)) (ha : PE X a (tP (kb X C) (evP cf pk))) (hb : attributeBase o "pop" X.env (eval o X.env) = eval o X.env := by rfl) (hl : (apos.endLine == p2.line) = true := by rfl) (hs : noStar a = true := by rfl) :
    PE X (.Call (.Attribute o "pop" apos) [a] [] p2) (tE (kb X C) (evE cf (.popA i pk))) := by
  refine PE.le (pe_bm PySem.F.plainAttrs_list PySem.F.slot_list_pop PySem.F.type_list_pop mt_popAt ho (pa_cons ha pa_nil (star1 hs)) hb (few_one hs) hl (star1 hs) rfl) ?_
  rintro σ H Q ⟨Z, M, Γ, r, ⟨w, fr⟩, Γ', e, q⟩
  unfold evE at e
  split at e
  · rename_i hL
    obtain ⟨xs0, hL⟩ := isL_ok hL
    obtain ⟨a0, s0, _, _, e1, m1, vs0, o1, _⟩ := r.owned hL
    refine ⟨_, e1, .inl ⟨rfl, vs0, .inl (.inl o1)⟩, ?_⟩
    obtain ⟨y, Γ1, e2, e⟩ := Res.bind_ok e
    refine ⟨Z, M, Γ, r, y, Γ1, e2, fun v H1 M1 r1 f1 hv => ?_⟩
    split at e
    · rename_i xs j hx hy
      split at e
      · rename_i hj
        split at e
        · rename_i d rr hpop
          obtain ⟨Γ2, Γ3, e4, e5⟩ := Res.bind_ok e
          obtain ⟨e6, rfl⟩ := liftO_ok e4
          cases e5
          obtain ⟨a1, s1, _, _, e3, m3, vs, o3, hvs⟩ := r1.owned hx
          rw [e1] at e3; cases e3
          obtain rfl : v = .int j := (hv.rx r1 hy).rp rfl
          obtain ⟨h1, h2⟩ := of_decide_eq_true hj
          unfold popD at hpop
          obtain ⟨k, hk, hk2⟩ := Option.bind_eq_some_iff.mp hpop
          obtain ⟨d', hd, he⟩ := Option.map_eq_some_iff.mp hk2
          cases he
          obtain ⟨x, hx1, hx2⟩ := hvs.get hd
          have hsq := (ixN_seq hk).1
          rw [hvs.len] at hsq
          refine ⟨a0, vs, j, k, x, rfl, rfl, o3, h1, h2, hsq, hx1, ?_⟩
          obtain ⟨r3, f3⟩ := r1.put e1 m3 e6 (o := .lst (vs.eraseIdx k)) ⟨_, rfl, hvs.erase k⟩
          exact q x _ M1 r3 (f1.trans f3) (hx2.mono (f3.out r1.zm) _ _)
        · cases e
      · cases e
    · cases e
  · cases e
theorem e_pop0 {o : Expr} {i : Nat} (ho : PE X o (tVar i)) (hb : attributeBase o "pop" X.env (eval o X.env) = eval o X.env := by rfl) (hl : (apos.endLine == p2.line) = true := by rfl) :
    PE X (.Call (.Attribute o "pop" apos) [] [] p2) (tE (kb X C) (evE cf (.pop0 i))) := by
  refine PE.le (pe_bm0 PySem.F.plainAttrs_list PySem.F.slot_list_pop PySem.F.type_list_pop mt_pop ho hb hl) ?_
  rintro σ H Q ⟨Z, M, Γ, r, ⟨w, fr⟩, Γ', e, q⟩
  unfold evE at e
  split at e
  · rename_i xs hx
    split at e
    · rename_i d rr hpop
      obtain ⟨Γ2, Γ3, e4, e5⟩ := Res.bind_ok e
      obtain ⟨e6, rfl⟩ := liftO_ok e4
      cases e5
      obtain ⟨a1, s1, _, _, e3, m3, vs, o3, hvs⟩ := r.owned hx
      refine ⟨_, e3, .inl ⟨rfl, vs, .inl (.inl o3)⟩, ?_⟩
      unfold popD at hpop
      obtain ⟨k, hk, hk2⟩ := Option.bind_eq_some_iff.mp hpop
      obtain ⟨d', hd, he⟩ := Option.map_eq_some_iff.mp hk2
      cases he
      have hk3 : k = xs.length - 1 := by
        unfold L2.ixN at hk
        split at hk
        · rename_i z; omega
        · split at hk
          · cases hk; omega
          · cases hk
      obtain ⟨x, hx1, hx2⟩ := hvs.get hd
      have hl := hvs.len
      have herase : xs.eraseIdx k = xs.dropLast := by rw [hk3]; exact List.eraseIdx_length_sub_one
      have hdrop : Rps (kb X C) H (un M Z) (xs.eraseIdx k) vs.dropLast := by
        have h2 := hvs.erase k
        rwa [show vs.eraseIdx k = vs.dropLast by rw [hk3, hl]; exact List.eraseIdx_length_sub_one] at h2
      refine ⟨a1, vs, x, rfl, rfl, o3, by rw [← hl, ← hk3]; exact hx1, ?_⟩
      obtain ⟨r3, f3⟩ := r.put e3 m3 e6 (o := .lst vs.dropLast) ⟨_, rfl, hdrop⟩
      exact q x _ M r3 f3 (hx2.mono (f3.out r.zm) _ _)
    · cases e
  · cases e
end
end Dn
end

section
set_option linter.all false
set_option autoImplicit false
set_option maxRecDepth 10000
/-! DnI: assignments. -/
namespace Dn
open PySem PySem.Spec PyProof.Rows L2
section
variable {X : Cx} {C : Cl} {W : WX} {cf : CallF} {pos p2 : Pos} {B : List Nat}
theorem bindF_nm {Γ : Env} {i : Nat} {d : D} {fr : Bool} : bindF Γ (.nm i) d fr = store Γ i d fr := rfl
theorem le_asg {i : Nat} {ea : E} (hB : i ∉ B) : ∀ D σ H, tS (kb X C) W B (evS cf (.asg (.nm i) ea)) D σ H → tAsg (tE (kb X C) (evE cf ea)) (gName i) D σ H := by
  rintro D σ H ⟨Z, M, Γ, r, q⟩
  unfold evS at q
  cases e2 : evE cf ea Γ with
  | no => rw [e2] at q; exact q.elim
  | ok x Γ1 =>
    rw [e2] at q
    refine ⟨Z, M, Γ, r, x, Γ1, e2, fun v H1 M1 r1 f1 rv => ?_⟩
    dsimp only at q
    rw [bindF_nm] at q
    cases e3 : store Γ1 i x.1 x.2 with
    | none => rw [e3] at q; exact q.elim
    | some Γ2 =>
      rw [e3] at q
      obtain ⟨r2, _⟩ := r1.store e3 rv
      exact q _ H1 M1 r2 f1 (Eqs.set hB)
/-- name = e -/
theorem s_asg {i : Nat} {x : Str} {e : Expr} {ea : E} {pos' : Pos} (G : Gd X) (he : PE X e (tE (kb X C) (evE cf ea))) (hi : X.N[i]? = some x := by rfl) (hx : Loc X.env.scope x := by first | exact .inl rfl | exact .inr rfl)
    (hs : swapsWith e (some (.Name x pos')) pos.line X.env = pure false := by rfl) (hf : X.fn x = true ∨ X.env.scope.names.lookup x = some .local := by first | exact .inl rfl | exact .inr rfl) (hB : i ∉ B := by decide) :
    PS X (.Assign [.Name x pos'] e pos) (tS (kb X C) W B (evS cf (.asg (.nm i) ea))) := PS.le (ps_set G.nd hi hx he hs hf) (le_asg hB)
/-- a, b, .. = e -/
theorem s_tup {t e : Expr} {gs : Tgs} {ea : E} (ht : PG X t (tG (kb X C) B fun Γ => bind1 Γ (.tp gs))) (he : PE X e (tE (kb X C) (evE cf ea)))
    (hs : swapsWithSole [t] e pos.line X.env = pure false := by rfl) (hw : swappedStores [t] e X.env = pure none := by rfl) (h1 : (assignEach [t] X.env).map (·.2) = [assign t X.env] := by rfl) :
    PS X (.Assign [t] e pos) (tS (kb X C) W B (evS cf (.asg (.tp gs) ea))) := by
  refine PS.le (ps_asg he ht hs hw h1) ?_
  rintro D σ H ⟨Z, M, Γ, r, q⟩
  unfold evS at q
  cases e2 : evE cf ea Γ with
  | no => rw [e2] at q; exact q.elim
  | ok x Γ1 =>
    rw [e2] at q
    refine ⟨Z, M, Γ, r, x, Γ1, e2, fun v H1 M1 r1 f1 rv => ?_⟩
    obtain ⟨M2, r2, f2, hp⟩ := rv.frozen r1
    have q : SEnd (kb X C) W Z B D σ H M (match bind1 Γ1 (.tp gs) x.1 with | some Γ2 => .nx Γ2 | none => .no) := q
    cases e3 : bind1 Γ1 (.tp gs) x.1 with
    | none => rw [e3] at q; exact q.elim
    | some Γ2 =>
      rw [e3] at q
      exact ⟨Z, M2, Γ1, r2, x.1, Γ2, e3, hp, fun σ' r3 e' => q σ' H1 M2 r3 (f1.trans f2) e'⟩
theorem RVals.len {K : KB} {Z : AS} {Γ : Env} {σ : L2.St} {H : Hp} {M : AS} : ∀ {l : List (D × Bool)} {vs : List V}, RVals K Z Γ σ H M l vs → l.length = vs.length
  | [], _, h => by cases h; rfl
  | x :: l, _, ⟨v, r, e, _, h2, _⟩ => by subst e; simp [RVals.len h2]
/-- stores of fresh values, one after another -/
def setL (σ : L2.St) : List Nat → List V → L2.St
  | i :: l, v :: vs => setL (σ.set i (some v)) l vs
  | _, _ => σ
theorem RVal.aft {K : KB} {Z : AS} {Γ Γ' : Env} {σ : L2.St} {H : Hp} {M : AS} {i : Nat} {d d' : D} {fr fr' : Bool} {v v' : V} (r : Rel K Z Γ σ H M) (e : store Γ i d fr = some Γ') (h : RVal K Z Γ σ H M d fr v)
    (h' : RVal K Z Γ σ H M d' fr' v') (ne : fr = true → fr' = true → v ≠ v') : RVal K Z Γ' (σ.set i (some v)) H M d' fr' v' := by
  obtain ⟨_, ap⟩ := r.store e h
  unfold RVal at h' ⊢
  cases fr' with
  | false => rw [if_neg Bool.false_ne_true] at h' ⊢; exact h'
  | true =>
    rw [if_pos rfl] at h' ⊢
    obtain ⟨a, rfl, m, o, ap'⟩ := h'
    exact ⟨a, rfl, m, o, ap a ap' fun z => ne z rfl⟩
theorem RVals.aft {K : KB} {Z : AS} {Γ Γ' : Env} {σ : L2.St} {H : Hp} {M : AS} {i : Nat} {d : D} {fr : Bool} {v : V} (r : Rel K Z Γ σ H M) (e : store Γ i d fr = some Γ') (h : RVal K Z Γ σ H M d fr v) :
    ∀ {l : List (D × Bool)} {vs : List V}, RVals K Z Γ σ H M l vs → (fr = true → ∀ a, v = .ref a → a ∉ FrA l vs) → RVals K Z Γ' (σ.set i (some v)) H M l vs
  | [], _, q, _ => q
  | x :: l, _, ⟨w, vs, e1, h1, h2, h3⟩, ne => by
    subst e1
    have sub : ∀ a, a ∈ FrA l vs → a ∈ FrA (x :: l) (w :: vs) := fun a m => by
      unfold FrA
      split
      · exact List.mem_cons_of_mem _ m
      · exact m
    refine ⟨w, vs, rfl, RVal.aft r e h h1 fun z1 z2 z3 => ?_, RVals.aft r e h h2 fun z a ea m => ne z a ea (sub a m), h3⟩
    unfold RVal at h1
    rw [z2, if_pos rfl] at h1
    obtain ⟨a, ea, _⟩ := h1
    refine ne z1 a (z3.trans ea) ?_
    rw [ea]
    unfold FrA
    rw [z2]
    exact List.mem_cons_self
theorem storeL_ok {K : KB} {Z : AS} {H : Hp} {M : AS} : ∀ {is : List Nat} {l : List (D × Bool)} {vs : List V} {Γ Γ' : Env} {σ : L2.St}, Rel K Z Γ σ H M → storeL Γ is l = some Γ' → RVals K Z Γ σ H M l vs → (∀ i ∈ is, i ∉ B) → Rel K Z Γ' (setL σ is vs) H M ∧ Eqs B σ (setL σ is vs)
  | [], [], _, Γ, Γ', σ, r, e, h, _ => by cases h; cases e; exact ⟨r, Eqs.refl⟩
  | i :: is, x :: l, _, Γ, Γ', σ, r, e, ⟨v, vs, e1, h1, h2, h3⟩, hB => by
    subst e1
    unfold storeL at e
    cases e2 : store Γ i x.1 x.2 with
    | none => rw [e2] at e; cases e
    | some Γ1 =>
      rw [e2] at e
      obtain ⟨r1, _⟩ := r.store e2 h1
      obtain ⟨r2, q2⟩ := storeL_ok r1 e (RVals.aft r e2 h1 h2 h3) fun j hj => hB j (List.mem_cons_of_mem _ hj)
      exact ⟨r2, (Eqs.set (hB i List.mem_cons_self)).trans q2⟩
  | [], x :: l, _, Γ, Γ', σ, r, e, h, _ => by cases e
  | i :: is, [], _, Γ, Γ', σ, r, e, h, _ => by cases e
theorem par_aux {is : List Nat} {es : Es} {D : Ends} {σ : L2.St} {H : Hp} {Z : AS} {M : AS} {Γ : Env} (q : SEnd (kb X C) W Z B D σ H M (evS cf (.par is es) Γ)) : ∃ l Γ1 Γ2, evEs cf es Γ = .ok l Γ1 ∧ storeL Γ1 is l = some Γ2 ∧ SEnd (kb X C) W Z B D σ H M (.nx Γ2) := by
  unfold evS at q
  cases e2 : evEs cf es Γ with
  | no => rw [e2] at q; exact q.elim
  | ok l Γ1 =>
    rw [e2] at q
    dsimp only at q
    cases e3 : storeL Γ1 is l with
    | none => rw [e3] at q; exact q.elim
    | some Γ2 => rw [e3] at q; exact ⟨l, Γ1, Γ2, rfl, e3, q⟩
theorem set_comm {σ : L2.St} {i j : Nat} {v w : Option V} (h : i ≠ j) : (σ.set i v).set j w = (σ.set j w).set i v := List.set_comm v w h
/-- a, b = x, y: two names of the frame's own -/
theorem s_par2 {i j : Nat} {x y : Str} {a b : Expr} {es : Es} {px py pt : Pos} {kt k2 pt2} (G : Gd X) (he : PA X [a, b] (tEf (kb X C) (evEs cf es)))
    (hw : swappedStores [.Tuple [.Name x px, .Name y py] kt pt] (.Tuple [a, b] k2 pt2) X.env = pure (some [x, y]) := by rfl) (hi : X.N[i]? = some x := by rfl) (hj : X.N[j]? = some y := by rfl) (hij : i ≠ j := by decide)
    (hx : X.env.scope.names.lookup x = some .local := by rfl) (hy : X.env.scope.names.lookup y = some .local := by rfl) (hB : ∀ k ∈ [i, j], k ∉ B := by decide) :
    PS X (.Assign [.Tuple [.Name x px, .Name y py] kt pt] (.Tuple [a, b] k2 pt2) pos) (tS (kb X C) W B (evS cf (.par [i, j] es))) := by
  refine PS.le (ps_par G.calm G.nd hi hj hij hx hy he hw rfl) ?_
  rintro D σ H ⟨Z, M, Γ, r, q⟩
  obtain ⟨l, Γ1, Γ2, e1, e2, q⟩ := par_aux q
  refine ⟨Z, M, Γ, r, l, Γ1, e1, fun vs H1 M1 r1 f1 rvs => ?_⟩
  obtain ⟨r2, q2⟩ := storeL_ok (B := B) r1 e2 rvs hB
  match l, vs, rvs, e2, r2, q2 with
  | [c, d], _, ⟨v, _, rfl, _, ⟨w, _, rfl, _, rfl, _⟩, _⟩, e2, r2, q2 => exact ⟨v, w, rfl, q _ H1 M1 r2 f1 q2⟩
  | [], _, h, e2, _, _ => cases e2
  | [c], _, ⟨v, _, rfl, _, rfl, _⟩, e2, _, _ =>
    unfold storeL at e2
    split at e2
    · cases e2
    · cases e2
  | c :: d :: e :: l, _, h, e2, _, _ =>
    unfold storeL at e2
    split at e2
    · unfold storeL at e2
      split at e2
      · cases e2
      · cases e2
    · cases e2

/-- a, b, c = x, y, z -/
theorem s_par3 {i j k : Nat} {x y z : Str} {a b c : Expr} {es : Es} {px py pz pt : Pos} {kt k2 pt2} (G : Gd X) (he : PA X [a, b, c] (tEf (kb X C) (evEs cf es)))
    (hw : swappedStores [.Tuple [.Name x px, .Name y py, .Name z pz] kt pt] (.Tuple [a, b, c] k2 pt2) X.env = pure (some [x, y, z]) := by rfl) (hi : X.N[i]? = some x := by rfl) (hj : X.N[j]? = some y := by rfl) (hk : X.N[k]? = some z := by rfl)
    (hij : i ≠ j := by decide) (hik : i ≠ k := by decide) (hjk : j ≠ k := by decide)
    (hx : X.env.scope.names.lookup x = some .local := by rfl) (hy : X.env.scope.names.lookup y = some .local := by rfl) (hz : X.env.scope.names.lookup z = some .local := by rfl) (hB : ∀ n ∈ [i, j, k], n ∉ B := by decide) :
    PS X (.Assign [.Tuple [.Name x px, .Name y py, .Name z pz] kt pt] (.Tuple [a, b, c] k2 pt2) pos) (tS (kb X C) W B (evS cf (.par [i, j, k] es))) := by
  refine PS.le (ps_par3 G.calm G.nd hi hj hk hij hik hjk hx hy hz he hw rfl) ?_
  rintro D σ H ⟨Z, M, Γ, r, q⟩
  obtain ⟨l, Γ1, Γ2, e1, e2, q⟩ := par_aux q
  refine ⟨Z, M, Γ, r, l, Γ1, e1, fun vs H1 M1 r1 f1 rvs => ?_⟩
  obtain ⟨r2, q2⟩ := storeL_ok (B := B) r1 e2 rvs hB
  match l, vs, rvs, e2, r2, q2 with
  | [_, _, _], _, ⟨u, _, rfl, _, ⟨v, _, rfl, _, ⟨w, _, rfl, _, rfl, _⟩, _⟩, _⟩, e2, r2, q2 => exact ⟨u, v, w, rfl, q _ H1 M1 r2 f1 q2⟩
  | [], _, h, e2, _, _ => cases e2
  | [c], _, _, e2, _, _ =>
    unfold storeL at e2
    split at e2
    · cases e2
    · cases e2
  | [c, d], _, _, e2, _, _ =>
    unfold storeL at e2
    split at e2
    · unfold storeL at e2
      split at e2
      · cases e2
      · cases e2
    · cases e2
  | _ :: _ :: _ :: _ :: l, _, h, e2, _, _ =>
    unfold storeL at e2
    split at e2
    · unfold storeL at e2
      split at e2
      · unfold storeL at e2
        split at e2
        · cases e2
        · cases e2
      · cases e2
    · cases e2
theorem RVals.new {K : KB} {Z : AS} {Γ : Env} {σ : L2.St} {H : Hp} {M : AS} {p : Addr} {o : HO} (r : Rel K Z Γ σ H M) (hp : H p = none) : ∀ {l : List (D × Bool)} {vs : List V}, RVals K Z Γ σ H M l vs → RVals K Z Γ σ (upd H p o) M l vs
  | [], _, h => h
  | x :: l, _, ⟨v, vs, e, h1, h2, h3⟩ => by
    obtain ⟨_, _, k⟩ := r.new hp o
    refine ⟨v, vs, e, ?_, RVals.new r hp h2, h3⟩
    unfold RVal at h1 ⊢
    split at h1
    · rename_i hx
      rw [if_pos hx]
      obtain ⟨a, ea, m, ow, ap⟩ := h1
      exact ⟨a, ea, m, ow.mono (upd_ne fun z => r.md a m (by rw [z]; exact hp)) k, ap⟩
    · rename_i hx
      rw [if_neg hx]
      exact h1.mono k _ _
def gNs (is : List Nat) : TGs := fun vs σ H Q => vs.length = is.length ∧ Q (setL σ is vs) H
theorem gn_nil : PGs X [] (gNs []) := by
  refine PGs.le pgs_nil ?_
  rintro vs σ H Q ⟨h, q⟩
  have h : vs = [] := List.length_eq_zero_iff.mp h
  subst h
  exact ⟨rfl, q⟩
theorem gn_cons {a : Expr} {es : List Expr} {i : Nat} {is : List Nat} (h1 : PG X a (gName i)) (h2 : PGs X es (gNs is)) (hs : noStar a = true := by rfl) : PGs X (a :: es) (gNs (i :: is)) := by
  refine PGs.le (pgs_cons h1 h2 (star2 hs)) ?_
  rintro vs σ H Q ⟨h, q⟩
  cases vs with
  | nil => cases h
  | cons v vs => exact ⟨v, vs, rfl, Nat.succ.inj h, q⟩
theorem storeL_len : ∀ {is : List Nat} {l : List (D × Bool)} {Γ Γ' : Env}, storeL Γ is l = some Γ' → l.length = is.length
  | [], [], _, _, _ => rfl
  | i :: is, x :: l, Γ, Γ', e => by
    unfold storeL at e
    split at e
    · exact congrArg (· + 1) (storeL_len e)
    · cases e
  | [], x :: l, Γ, Γ', e => by cases e
  | i :: is, [], Γ, Γ', e => by cases e
/-- a, b, .. = x, y, .. by a tuple between -/
theorem s_parT {ts as_ : List Expr} {es : Es} {is : List Nat} {kt k2 : Nat} {pt pt2 : Pos} (G : Gd X) (hg : PGs X ts (gNs is)) (he : PA X as_ (tEf (kb X C) (evEs cf es)))
    (hw : swappedStores [.Tuple ts kt pt] (.Tuple as_ k2 pt2) X.env = pure none := by rfl) (hn : (assignEach ts X.env).length = is.length := by rfl) (hst : (assignEach ts X.env).findIdx? (·.1) = none := by rfl) (hB : ∀ n ∈ is, n ∉ B := by decide) (hsm : is.length ≤ 60 := by decide) :
    PS X (.Assign [.Tuple ts kt pt] (.Tuple as_ k2 pt2) pos) (tS (kb X C) W B (evS cf (.par is es))) := by
  refine PS.le (ps_asg (pe_tup he) (pg_tup G.calm hg hn hst) rfl hw rfl) ?_
  rintro D σ H ⟨Z, M, Γ, r, q⟩
  obtain ⟨l, Γ1, Γ2, e1, e2, q⟩ := par_aux q
  refine ⟨Z, M, Γ, r, l, Γ1, e1, fun vs H1 M1 r1 f1 rvs => ?_⟩
  have hlen := rvs.len
  have hl2 := storeL_len e2
  refine ⟨?_, fun p hp => ⟨p, vs, rfl, .inl (.inl upd_same), by omega, by omega, ?_⟩⟩
  · have h2 : sizeLine = 16777216 := sizeLine_eq
    omega
  · obtain ⟨r2, f2, k2⟩ := r1.new hp (.tup vs)
    have rvs2 : RVals (kb X C) Z Γ1 σ (upd H1 p (.tup vs)) M1 l vs := RVals.new r1 hp rvs
    obtain ⟨r3, q3⟩ := storeL_ok (B := B) r2 e2 rvs2 hB
    exact q _ _ M1 r3 (f1.trans f2) q3
/-! ### stores by place -/
theorem pset_or {t t' : TSet} (h : PSet X t) (h' : PSet X t') : PSet X (fun o i v H Q => t o i v H Q ∨ t' o i v H Q) := fun pins s σ H o i v ov iv u Q I ro ri rv q => q.elim (h pins s σ H o i v ov iv u Q I ro ri rv) (h' pins s σ H o i v ov iv u Q I ro ri rv)
theorem dput_ok {K : KB} {H : Hp} {A : AS} {d : D} {v : V} {k : Int} (hd : Rp K H A d v) : ∀ {ks : List Int} {xs : List D} {kvs : List (Key × V)}, kvs.map (·.1) = ks.map Sum.inl → Rps K H A xs (kvs.map (·.2)) →
    (kvs.any (fun kv => decide (kv.1 = Sum.inl k)) = ks.any fun k' => decide (k' = k)) ∧
    Rps K H A (dputV k d ks xs) ((kvs.map fun kv => if kv.1 = Sum.inl k then (kv.1, v) else kv).map (·.2)) ∧ (kvs.map fun kv => if kv.1 = Sum.inl k then (kv.1, v) else kv).map (·.1) = ks.map Sum.inl
  | [], xs, kvs, e, h => by
    cases kvs with
    | nil => exact ⟨rfl, h, rfl⟩
    | cons kv kvs => cases e
  | k' :: ks, [], kvs, e, h => by
    cases kvs with
    | nil => cases e
    | cons kv kvs => cases h
  | k' :: ks, x :: xs, [], e, h => by cases e
  | k' :: ks, x :: xs, kv :: kvs, e, ⟨w, r, q, h1, h2⟩ => by
    have e1 : kv.1 = Sum.inl k' := (List.cons_eq_cons.mp e).1
    have e2 := (List.cons_eq_cons.mp e).2
    have q1 : kv.2 = w := (List.cons_eq_cons.mp q).1
    have q2 := (List.cons_eq_cons.mp q).2
    obtain ⟨i1, i2, i3⟩ := dput_ok (k := k) hd e2 (by rw [q2]; exact h2)
    have hk : (kv.1 = Sum.inl k) ↔ k' = k := by rw [e1]; exact ⟨fun z => Sum.inl.inj z, fun z => by rw [z]⟩
    refine ⟨?_, ?_, ?_⟩
    · rw [List.any_cons, List.any_cons, i1]
      congr 1
      exact decide_eq_decide.mpr hk
    · by_cases h : k' = k
      · have : kv.1 = Sum.inl k := hk.mpr h
        simp only [List.map_cons, if_pos this, dputV, if_pos h]
        exact ⟨v, _, rfl, hd, i2⟩
      · have : ¬ kv.1 = Sum.inl k := fun z => h (hk.mp z)
        simp only [List.map_cons, if_neg this, dputV, if_neg h]
        exact ⟨kv.2, _, rfl, by rw [q1]; exact h1, i2⟩
    · by_cases h : k' = k
      · have : kv.1 = Sum.inl k := hk.mpr h
        simp only [List.map_cons, if_pos this]
        exact List.cons_eq_cons.mpr ⟨e1, i3⟩
      · have : ¬ kv.1 = Sum.inl k := fun z => h (hk.mp z)
        simp only [List.map_cons, if_neg this]
        exact List.cons_eq_cons.mpr ⟨e1, i3⟩
theorem s_set {o k e : Expr} {i : Nat} {pk : P} {ea : E} (G : Gd X) (ho : PE X o (tVar i)) (hk : PE X k (tP (kb X C) (evP cf pk))) (he : PE X e (tE (kb X C) (evE cf ea)))
    (hs : swapsWithSole [.Subscript o k p2] e pos.line X.env = pure false := by rfl) (hw : swappedStores [.Subscript o k p2] e X.env = pure none := by rfl)
    (ha : ∀ v, assign (.Subscript o k p2) X.env v = (do
      let ov ← holding [v] (eval o X.env)
      let iv ← holding [v, ov] (eval k X.env)
      standAt p2
      holding [v, ov, iv] (setItem ov iv v)
      release [v, ov, iv] []) := by intro _; rfl) : PS X (.Assign [.Subscript o k p2] e pos) (tS (kb X C) W B (evS cf (.set i pk ea))) := by
  have hu : X.A.units + 1 < cLine := by have := G.un; omega
  refine PS.le (ps_asg he (pg_sub ho hk (pset_or set_list (set_dict hu)) ha) hs hw rfl) ?_
  rintro D σ H ⟨Z, M, Γ, r, q⟩
  unfold evS at q
  cases e2 : evE cf ea Γ with
  | no => rw [e2] at q; exact q.elim
  | ok x Γ1 =>
    rw [e2] at q
    refine ⟨Z, M, Γ, r, x, Γ1, e2, fun v H1 M1 r1 f1 rv => ?_⟩
    obtain ⟨M2, r2, f2, hp⟩ := rv.frozen r1
    dsimp only at q
    split at q
    rotate_left
    · exact q.elim
    rename_i hsome
    obtain ⟨d0, hd0⟩ := Option.isSome_iff_exists.mp hsome
    obtain ⟨a, s, _, _, ea', _, _⟩ := r2.owned hd0
    cases e3 : evP cf pk Γ1 with
    | no => rw [e3] at q; exact q.elim
    | ok y Γ2 =>
      rw [e3] at q
      dsimp only at q
      split at q
      · rename_i od kd hod hkd
        split at q
        · rename_i o' hset
          split at q
          · rename_i Γ3 hput
            refine ⟨_, ea', Z, M2, Γ1, r2, y, Γ2, e3, fun w H3 M3 r3 f3 hv => ?_⟩
            obtain ⟨a1, s1, _, _, e4, m4, o4⟩ := r3.owned hod
            rw [ea'] at e4; cases e4
            have hp3 := hp.mono (f3.out r2.zm) _ _
            have rx := hv.rx r3 hkd
            unfold setD at hset
            split at hset
            · rename_i xs n
              obtain ⟨j, hj, rfl⟩ := Option.map_eq_some_iff.mp hset
              obtain ⟨vs, ho4, hvs⟩ := o4
              refine .inl ⟨a, vs, n, j, rfl, rx.rp rfl, ho4, by rw [← hvs.len]; exact hj, ?_⟩
              obtain ⟨r5, f5⟩ := r3.put ea' m4 hput (o := .lst (vs.set j v)) ⟨_, rfl, hvs.set j hp3⟩
              exact q σ _ M3 r5 (((f1.trans f2).trans f3).trans f5) Eqs.refl
            · rename_i ks xs n
              split at hset
              · rename_i hz
                cases hset
                obtain ⟨kvs, ho4, hks, hvs⟩ := o4
                obtain rfl : w = .int n := rx.rp rfl
                obtain ⟨i1, i2, i3⟩ := dput_ok (k := n) hp3 hks hvs
                have hl : kvs.length < sizeLine := by
                  have h1 := congrArg List.length hks
                  rw [List.length_map, List.length_map] at h1
                  have := (len_ok hz).2
                  omega
                refine .inr ⟨a, _, rfl, DPut.k (k := Sum.inl n) ho4 hl, ?_⟩
                have hc : Cont (kb X C) H3 (un M3 Z) (.dct (dput ks xs n x.1).1 (dput ks xs n x.1).2) (.dK (putK kvs (Sum.inl n) v)) := by
                  refine ⟨_, rfl, ?_⟩
                  unfold dput putK
                  rw [i1]
                  by_cases hany : (ks.any fun k' => decide (k' = n)) = true
                  · rw [if_pos hany, if_pos hany]
                    exact ⟨i3, i2⟩
                  · rw [if_neg hany, if_neg hany]
                    refine ⟨by rw [List.map_append, List.map_append, hks]; rfl, ?_⟩
                    rw [List.map_append]
                    exact hvs.app (Rps.one hp3)
                obtain ⟨r5, f5⟩ := r3.put ea' m4 hput hc
                exact q σ _ M3 r5 (((f1.trans f2).trans f3).trans f5) Eqs.refl
              · cases hset
            · cases hset
          · exact q.elim
        · exact q.elim
      · exact q.elim

/-- in place, of ints -/
def rAug (o : Bop) : R2 := fun x y H Q => ∃ i j r, x = .int i ∧ y = .int j ∧ augD o i j = some r ∧ Q (.int r) H
theorem ip_add : OpR X (inplaceOp .Add) (rAug .add) := OpR.le iop_add (by
  rintro x y H Q ⟨i, j, r, hx, hy, hf, q⟩
  cases hf
  exact ⟨i, j, hx, hy, q⟩)
theorem ip_sub : OpR X (inplaceOp .Sub) (rAug .sub) := OpR.le iop_sub (by
  rintro x y H Q ⟨i, j, r, hx, hy, hf, q⟩
  cases hf
  exact ⟨i, j, hx, hy, q⟩)
theorem ip_mul : OpR X (inplaceOp .Mult) (rAug .mul) := OpR.le (r' := rI CMulW fun i j => .int (i * j)) (opI fun _ _ _ _ _ _ _ hc q => imul_int q hc.ok) (by
  rintro x y H Q ⟨i, j, r, hx, hy, hf, q⟩
  change (if fitMul i j = true then some (i * j) else none) = some r at hf
  split at hf
  · rename_i hl
    cases hf
    exact ⟨_, _, hx, hy, Nat.le_of_ble_eq_true hl, q⟩
  · cases hf)
theorem ip_fdiv : OpR X (inplaceOp .FloorDiv) (rAug .fdiv) := OpR.le iop_fdivW (by
  rintro x y H Q ⟨i, j, r, hx, hy, hf, q⟩
  change (if 0 < j ∧ j.natAbs.log2 < 9000 then some (i / j) else none) = some r at hf
  split at hf
  · rename_i hl
    cases hf
    exact ⟨_, _, hx, hy, hl, q⟩
  · cases hf)
/-- name op= e, of ints -/
theorem s_aug {i : Nat} {x : Str} {e : Expr} {o : Bop} {pa : P} {pos' : Pos} {op : Operator} (G : Gd X) (hip : OpR X (inplaceOp op) (rAug o)) (he : PE X e (tP (kb X C) (evP cf pa))) (hi : X.N[i]? = some x := by rfl) (hx : Loc X.env.scope x := by first | exact .inl rfl | exact .inr rfl)
    (hf : X.fn x = true ∨ X.env.scope.names.lookup x = some .local := by first | exact .inl rfl | exact .inr rfl) (hB : i ∉ B := by decide) : PS X (.AugAssign (.Name x pos') op e pos) (tS (kb X C) W B (evS cf (.aug i o pa))) := by
  refine PS.le (ps_aug G.nd hi hx he hip hf) ?_
  rintro D σ H ⟨Z, M, Γ, r, q⟩
  unfold evS at q
  split at q
  rotate_left
  · exact q.elim
  rename_i m0 hm0
  obtain ⟨v0, ev0, hp0⟩ := r.sl i _ hm0
  refine ⟨v0, ev0, ?_⟩
  cases e2 : evP cf pa Γ with
  | no => rw [e2] at q; exact q.elim
  | ok y Γ1 =>
    rw [e2] at q
    refine ⟨Z, M, Γ, r, y, Γ1, e2, fun w H1 M1 r1 f1 hv => ?_⟩
    dsimp only at q
    split at q
    · rename_i m n hm hn
      split at q
      · rename_i d hd
        obtain ⟨v, ev, hp⟩ := r1.sl i _ hm
        rw [ev0] at ev; cases ev
        refine ⟨m, n, d, hp, (hv.rx r1 hn).rp rfl, hd, ?_⟩
        have est : store Γ1 i (.int d) false = some (Γ1.set i (.sh (.int d))) := by
          unfold Dn.store
          rw [hm]
          rfl
        obtain ⟨r3, f3⟩ := r1.store est (v := .int d) (by unfold RVal; rfl)
        exact q _ H1 M1 r3 f1 (Eqs.set hB)
      · exact q.elim
    · exact q.elim
end
end Dn
end

section
set_option linter.all false
set_option autoImplicit false
set_option maxRecDepth 10000
/-! DnJ: operators, comparisons, built-ins, as expressions. -/
namespace Dn
open PySem PySem.Spec PyProof.Rows L2
section
variable {X : Cx} {C : Cl} {cf : CallF} {pos p2 : Pos} {a b c : Expr} {pa pb pc : P}
theorem tE.to {K : KB} {f g : Env → Res (D × Bool)} {t : TE} (k : ∀ σ H Q, tE K g σ H Q → t σ H Q) (h : ∀ Γ r Γ', f Γ = .ok r Γ' → g Γ = .ok r Γ') : ∀ σ H Q, tE K f σ H Q → t σ H Q := fun σ H Q q => k σ H Q (tE.cast h σ H Q q)
theorem e_bin (o : Bop) (ha : PE X a (tP (kb X C) (evP cf pa))) (hb : PE X b (tP (kb X C) (evP cf pb))) : PE X (.BinOp a (bopO o) b pos) (tE (kb X C) (evE cf (.bin o pa pb))) :=
  PE.le (pe_op (op_bop o) ha hb) (tE.to (le2 (f := bopD o)) fun Γ r Γ' e => by unfold evE at e; exact e)
theorem le_cmp {o : Cop} : ∀ σ H Q, tE (kb X C) (evE cf (.cmp o pa pb)) σ H Q → tOp (rD2 (kb X C) fun d e => (copD o d e).map .bl) (tP (kb X C) (evP cf pa)) (tP (kb X C) (evP cf pb)) σ H Q :=
  tE.to (le2 (f := fun d e => (copD o d e).map .bl)) fun Γ r Γ' e => by
    unfold evE at e
    obtain ⟨hx, Γ1, e1, e⟩ := Res.bind_ok e
    obtain ⟨hy, Γ2, e2, e⟩ := Res.bind_ok e
    show ((evP cf pa Γ).bind _) = _
    rw [e1]
    show ((evP cf pb Γ1).bind _) = _
    rw [e2]
    show (match hx.get Γ2, hy.get Γ2 with
    | some d, some e => (liftO ((copD o d e).map D.bl) Γ2).bind fun r Γ3 => Res.ok (r, isBox r) Γ3
    | _, _ => .no) = _
    cases ex : hx.get Γ2 with
    | none => rw [ex] at e; cases e
    | some d =>
      cases ey : hy.get Γ2 with
      | none => rw [ex, ey] at e; cases e
      | some e' =>
        rw [ex, ey] at e
        obtain ⟨z, Γ3, e3, e4⟩ := Res.bind_ok e
        obtain ⟨e5, rfl⟩ := liftO_ok e3
        cases e4
        show ((liftO ((copD o d e').map D.bl) _).bind fun r Γ3 => Res.ok (r, isBox r) Γ3) = _
        rw [e5]
        rfl
theorem e_cmp (o : Cop) (hu : X.A.units + 64 < cLine) (ha : PE X a (tP (kb X C) (evP cf pa))) (hb : PE X b (tP (kb X C) (evP cf pb))) (hm : behindInMarks (copO o) b = false := by with_unfolding_all rfl) : PE X (.Compare a [copO o] [b] pos) (tE (kb X C) (evE cf (.cmp o pa pb))) :=
  PE.le (pe_cmpR (op_cop hu o) ha hb hm) le_cmp
theorem t_cmp (o : Cop) (hu : X.A.units + 64 < cLine) (ha : PE X a (tP (kb X C) (evP cf pa))) (hb : PE X b (tP (kb X C) (evP cf pb))) (hm : behindInMarks (copO o) b = false := by with_unfolding_all rfl) : PT X (.Compare a [copO o] [b] pos) (tT (kb X C) (evT cf (.val (.e (.cmp o pa pb))))) := by
  refine PT.le (pt_cmpR (op_cop hu o) ha hb hm) fun σ H Q q => le_cmp σ H _ ?_
  obtain ⟨Z, M, Γ, r, b, Γ', e, q⟩ := q
  unfold evT at e
  obtain ⟨x, Γ1, e1, e2⟩ := Res.bind_ok e
  unfold evP at e1
  obtain ⟨y, Γ2, e3, e4⟩ := Res.bind_ok e1
  cases e4
  have e2' : liftO (truD y.1) Γ1 = .ok b Γ' := e2
  obtain ⟨e5, rfl⟩ := liftO_ok e2'
  refine ⟨Z, M, Γ, r, y, _, e3, fun v H' M' r' f' rv => ?_⟩
  have e6 := e3
  unfold evE at e6
  obtain ⟨hx, Γ1, e7, e⟩ := Res.bind_ok e6
  obtain ⟨hy, Γ2, e8, e⟩ := Res.bind_ok e
  split at e
  · obtain ⟨z, Γ3, e3, e4⟩ := Res.bind_ok e
    cases e4
    obtain rfl : v = .bl z := rv
    cases e5
    exact ⟨_, rfl, q _ _ r' f'⟩
  · cases e
def rC2 (K : KB) (f : D → D → Option D) : R2 := rD2 K f
/-- a op b op' c -/
theorem le_chn {o p : Cop} : ∀ σ H Q, tE (kb X C) (evE cf (.chn o p pa pb pc)) σ H Q → tChain (rD2 (kb X C) fun d e => (copD o d e).map .bl) (rD2 (kb X C) fun d e => (copD p d e).map .bl) (tP (kb X C) (evP cf pa)) (tP (kb X C) (evP cf pb)) (tP (kb X C) (evP cf pc)) σ H Q := by
  rintro σ H Q ⟨Z, M, Γ, r, w, Γ', e, q⟩
  unfold evE at e
  obtain ⟨hx, Γ1, e1, e⟩ := Res.bind_ok e
  refine ⟨Z, M, Γ, r, hx, Γ1, e1, fun x H1 M1 r1 f1 v1 => ?_⟩
  obtain ⟨hy, Γ2, e2, e⟩ := Res.bind_ok e
  refine ⟨Z, M1, Γ1, r1, hy, Γ2, e2, fun y H2 M2 r2 f2 v2 => ?_⟩
  have v1' := v1.mono r1.zm f2
  split at e
  rotate_left
  · cases e
  rename_i d e' ex ey
  obtain ⟨z, Γ3, e3, e4⟩ := Res.bind_ok e
  obtain ⟨e5, rfl⟩ := liftO_ok e3
  refine ⟨un M2 Z, d, e', .bl z, fun a h => r2.dom h, v1'.rx r2 ex, v2.rx r2 ey, by show (copD o d e').map D.bl = _; rw [e5]; rfl, fun v H' o => ?_⟩
  obtain ⟨M', r3, f3, rv⟩ := fin r2 o
  obtain rfl : v = .bl z := rv
  refine ⟨z, rfl, ?_⟩
  cases z with
  | false =>
    rw [if_neg Bool.false_ne_true] at e4 ⊢
    cases e4
    exact q _ H' M' r3 (f1.trans (f2.trans f3)) rfl
  | true =>
    rw [if_pos rfl] at e4 ⊢
    obtain ⟨hz, Γ4, e6, e7⟩ := Res.bind_ok e4
    refine ⟨Z, M', Γ3, r3, hz, Γ4, e6, fun w' H4 M4 r4 f4 v4 => ?_⟩
    split at e7
    rotate_left
    · cases e7
    rename_i e'' g ey' ez
    obtain ⟨z2, Γ5, e8, e9⟩ := Res.bind_ok e7
    obtain ⟨e10, rfl⟩ := liftO_ok e8
    cases e9
    have v2' := (v2.mono r2.zm f3).mono r3.zm f4
    refine ⟨un M4 Z, e'', g, .bl z2, fun a h => r4.dom h, v2'.rx r4 ey', v4.rx r4 ez, by show (copD p e'' g).map D.bl = _; rw [e10]; rfl, fun v5 H5 o5 => ?_⟩
    obtain ⟨M5, r5, f5, rv5⟩ := fin r4 o5
    exact q v5 H5 M5 r5 (f1.trans (f2.trans (f3.trans (f4.trans f5)))) rv5
theorem e_chn (o p : Cop) (hu : X.A.units + 64 < cLine) (ha : PE X a (tP (kb X C) (evP cf pa))) (hb : PE X b (tP (kb X C) (evP cf pb))) (hc : PE X c (tP (kb X C) (evP cf pc))) (hm : lastMarks [copO o, copO p] [b, c] = false := by with_unfolding_all rfl) :
    PE X (.Compare a [copO o, copO p] [b, c] pos) (tE (kb X C) (evE cf (.chn o p pa pb pc))) := PE.le (pe_chain (op_cop hu o) (op_cop hu p) ha hb hc hm) le_chn
theorem t_chn (o p : Cop) (hu : X.A.units + 64 < cLine) (ha : PE X a (tP (kb X C) (evP cf pa))) (hb : PE X b (tP (kb X C) (evP cf pb))) (hc : PE X c (tP (kb X C) (evP cf pc))) (hm : lastMarks [copO o, copO p] [b, c] = false := by with_unfolding_all rfl) :
    PT X (.Compare a [copO o, copO p] [b, c] pos) (tT (kb X C) (evT cf (.val (.e (.chn o p pa pb pc))))) := by
  refine PT.le (pt_chain (op_cop hu o) (op_cop hu p) ha hb hc hm) fun σ H Q q => le_chn σ H _ ?_
  obtain ⟨Z, M, Γ, r, b, Γ', e, q⟩ := q
  unfold evT at e
  obtain ⟨x, Γ1, e1, e2⟩ := Res.bind_ok e
  unfold evP at e1
  obtain ⟨y, Γ2, e3, e4⟩ := Res.bind_ok e1
  cases e4
  have e2' : liftO (truD y.1) Γ1 = .ok b Γ' := e2
  obtain ⟨e5, rfl⟩ := liftO_ok e2'
  refine ⟨Z, M, Γ, r, y, _, e3, fun v H' M' r' f' rv => ?_⟩
  have hb : ∃ z, y = (.bl z, false) := by
    have e := e3
    unfold evE at e
    obtain ⟨hx, Γ1, e1, e⟩ := Res.bind_ok e
    obtain ⟨hy, Γ2, e2, e⟩ := Res.bind_ok e
    split at e
    rotate_left
    · cases e
    obtain ⟨z, Γ3, e3, e4⟩ := Res.bind_ok e
    cases z with
    | false => rw [if_neg Bool.false_ne_true] at e4; cases e4; exact ⟨_, rfl⟩
    | true =>
      rw [if_pos rfl] at e4
      obtain ⟨hz, Γ4, e6, e7⟩ := Res.bind_ok e4
      split at e7
      rotate_left
      · cases e7
      obtain ⟨z2, Γ5, e8, e9⟩ := Res.bind_ok e7
      cases e9
      exact ⟨_, rfl⟩
  obtain ⟨z, rfl⟩ := hb
  obtain rfl : v = .bl z := rv
  cases e5
  exact ⟨_, rfl, q _ _ r' f'⟩
theorem e_idx (hu : X.A.units + 1 < cLine) (ha : PE X a (tP (kb X C) (evP cf pa))) (hb : PE X b (tP (kb X C) (evP cf pb))) (hs : PlainIx b := by intro _ _; rfl) : PE X (.Subscript a b pos) (tE (kb X C) (evE cf (.idx pa pb))) :=
  PE.le (pe_ix (ix_all hu) ha hb hs) (tE.to (le2s (f := idxD)) fun Γ r Γ' e => by unfold evE at e; exact e)
variable {lo hi : Option Expr} {ol oh : O}
theorem o_no : PO X none (tO (kb X C) (evO cf .no)) := by
  refine PO.le po_none ?_
  rintro σ H Q ⟨Z, M, Γ, r, b, Γ', e, q⟩
  cases e
  exact q H M r Fr.refl
theorem o_so (ha : PE X a (tP (kb X C) (evP cf pa))) : PO X (some a) (tO (kb X C) (evO cf (.so pa))) := by
  refine PO.le (po_some ha) ?_
  rintro σ H Q ⟨Z, M, Γ, r, b, Γ', e, q⟩
  unfold evO at e
  obtain ⟨x, Γ1, e1, e2⟩ := Res.bind_ok e
  refine ⟨Z, M, Γ, r, x, Γ1, e1, fun v H' M' r' f' hv => ?_⟩
  split at e2
  · rename_i i ex
    cases e2
    exact ⟨i, (hv.rx r' ex).rp rfl, q H' M' r' f'⟩
  · cases e2
theorem e_slc (ha : PE X a (tP (kb X C) (evP cf pa))) (hl : PO X lo (tO (kb X C) (evO cf ol))) (hh : PO X hi (tO (kb X C) (evO cf oh))) : PE X (.Subscript a (.Slice lo hi none p2) pos) (tE (kb X C) (evE cf (.slc pa ol oh))) := by
  refine PE.le (pe_slice (sl_all (C := C)) ha hl hh) ?_
  rintro σ H Q ⟨Z, M, Γ, r, b, Γ', e, q⟩
  unfold evE at e
  obtain ⟨x, Γ1, e1, e⟩ := Res.bind_ok e
  refine ⟨Z, M, Γ, r, x, Γ1, e1, fun v H1 M1 r1 f1 v1 => ?_⟩
  obtain ⟨l, Γ2, e2, e⟩ := Res.bind_ok e
  refine ⟨Z, M1, Γ1, r1, l, Γ2, e2, fun H2 M2 r2 f2 => ?_⟩
  obtain ⟨h, Γ3, e3, e⟩ := Res.bind_ok e
  refine ⟨Z, M2, Γ2, r2, h, Γ3, e3, fun H3 M3 r3 f3 => ?_⟩
  have v3 := (v1.mono r1.zm f2).mono r2.zm f3
  split at e
  rotate_left
  · cases e
  rename_i d ex
  obtain ⟨z, Γ4, e4, e5⟩ := Res.bind_ok e
  obtain ⟨e6, rfl⟩ := liftO_ok e4
  cases e5
  refine ⟨un M3 Z, d, _, fun a h => r3.dom h, v3.rx r3 ex, e6, fun v H' o => ?_⟩
  obtain ⟨M', r4, f4, rv⟩ := fin r3 o
  exact q v H' M' r4 (f1.trans (f2.trans (f3.trans f4))) rv
/-! ### built-ins -/
theorem le_b1 {f : B1} {σ : L2.St} {H : Hp} {Q : VK} (q : tE (kb X C) (evE cf (.bl1 f pa)) σ H Q) : tCB (rC1 (kb X C) (b1D f)) (tCons (tP (kb X C) (evP cf pa)) tNil) σ H Q := by
  have h := (tE.to (le1 (g := b1D f)) fun Γ r Γ' e => by unfold evE at e; exact e) σ H Q q
  obtain ⟨Z, M, Γ, r, x, Γ1, e1, k⟩ := h
  exact ⟨Z, M, Γ, r, x, Γ1, e1, fun v H' M' r' f' hv => ⟨v, rfl, k v H' M' r' f' hv⟩⟩
theorem e_blB {f : B1} {id : String} {x : Str} {p : Pos} (hc : CallR X (.builtin id) (rC1 (kb X C) (b1D f))) (ha : PE X a (tP (kb X C) (evP cf pa))) (hg : Gl X x := by rfl) (hm : X.mg x = none := by rfl) (hv : bootBuiltins x = some (.builtin id) := by rfl) (hn : x ≠ "__name__" := by decide) (hdb : (x == ("__debug__" : Str)) = false := by decide) (hs : noStar a = true := by rfl) :
    PE X (.Call (.Name x p) [a] [] pos) (tE (kb X C) (evE cf (.bl1 f pa))) :=
  PE.le (pe_callB hc hg hm hv (pa_cons ha pa_nil (star1 hs)) hn hdb (star1 hs)) fun σ H Q q => le_b1 q
theorem e_blT {f : B1} {id : String} {x : Str} {p : Pos} (hc : CallR X (.type id) (rC1 (kb X C) (b1D f))) (ha : PE X a (tP (kb X C) (evP cf pa))) (hg : Gl X x := by rfl) (hm : X.mg x = none := by rfl) (hv : bootBuiltins x = some (.type id) := by rfl) (hn : x ≠ "__name__" := by decide) (hdb : (x == ("__debug__" : Str)) = false := by decide) (hs : noStar a = true := by rfl) :
    PE X (.Call (.Name x p) [a] [] pos) (tE (kb X C) (evE cf (.bl1 f pa))) :=
  PE.le (pe_callTy hc hg hm hv (pa_cons ha pa_nil (star1 hs)) hn hdb (star1 hs)) fun σ H Q q => le_b1 q
theorem e_blM {f : B2} {id : String} {x : Str} {p : Pos} (hc : CallR X (.builtin id) (fun vs H Q => ∃ x y, vs = [x, y] ∧ rD2s (kb X C) (b2D f) x y H Q)) (ha : PE X a (tP (kb X C) (evP cf pa))) (hb : PE X b (tP (kb X C) (evP cf pb))) (hg : Gl X x := by rfl) (hm : X.mg x = none := by rfl) (hv : bootBuiltins x = some (.builtin id) := by rfl) (hn : x ≠ "__name__" := by decide) (hdb : (x == ("__debug__" : Str)) = false := by decide) (hs : noStar a = true := by rfl) (hs2 : noStar b = true := by rfl) :
    PE X (.Call (.Name x p) [a, b] [] pos) (tE (kb X C) (evE cf (.bl2 f pa pb))) := by
  refine PE.le (pe_callB hc hg hm hv (pa_cons ha (pa_cons hb pa_nil (star1 hs2)) (star1 hs)) hn hdb (star1 hs) (by rw [star1 hs2]; rfl)) fun σ H Q q => ?_
  have h := (tE.to (le2s (f := b2D f)) fun Γ r Γ' e => by unfold evE at e; exact e) σ H Q q
  obtain ⟨Z, M, Γ, r, x, Γ1, e1, k⟩ := h
  refine ⟨Z, M, Γ, r, x, Γ1, e1, fun v H' M' r' f' hv => ?_⟩
  obtain ⟨Z, M, Γ, r, x, Γ1, e1, k⟩ := k v H' M' r' f' hv
  exact ⟨Z, M, Γ, r, x, Γ1, e1, fun v2 H' M' r' f' hv => ⟨v, v2, rfl, k v2 H' M' r' f' hv⟩⟩
theorem pe_bltTy {x : Str} {p : Pos} {n : String} (hg : Gl X x) (hm : X.mg x = none) (hv : bootBuiltins x = some (.type n)) (hn : x ≠ "__name__" := by decide) (hd : (x == ("__debug__" : Str)) = false := by decide) : PE X (.Name x p) (tC (.ty n)) :=
  ⟨fun pins s σ H Q I h => ld_blt I hg hm hv ⟨.ty n, H, I, rfl, h⟩ hn hd⟩
theorem e_isi (t : Ty) {x y : Str} {p p' : Pos} (ha : PE X a (tP (kb X C) (evP cf pa))) (hx : x = "isinstance" := by rfl) (hg : Gl X x := by rfl) (hm : X.mg x = none := by rfl) (hy : bootBuiltins y = some (.type (tyS t)) := by rfl) (hg2 : Gl X y := by rfl) (hm2 : X.mg y = none := by rfl) (hn : y ≠ "__name__" := by decide) (hdb : (y == ("__debug__" : Str)) = false := by decide) (hs : noStar a = true := by rfl) :
    PE X (.Call (.Name x p) [a, .Name y p'] [] pos) (tE (kb X C) (evE cf (.bl1 (.isi t) pa))) := by
  subst hx
  refine PE.le (pe_callB (c_isi (C := C) t) hg hm (by rfl) (pa_cons ha (pa_cons (pe_bltTy hg2 hm2 hy hn hdb) pa_nil rfl) (star1 hs)) (by decide) (by decide) (star1 hs) rfl) fun σ H Q q => ?_
  have h := (tE.to (le1 (g := b1D (.isi t))) fun Γ r Γ' e => by unfold evE at e; exact e) σ H Q q
  obtain ⟨Z, M, Γ, r, x, Γ1, e1, k⟩ := h
  refine ⟨Z, M, Γ, r, x, Γ1, e1, fun v H' M' r' f' hv => ?_⟩
  obtain ⟨A, d, w, dom, hx, hf, q⟩ := k v H' M' r' f' hv
  have hf : (if isX d = true then none else some (D.bl (isiD t d))) = some w := hf
  cases hn : isX d with
  | true => rw [hn, if_pos rfl] at hf; cases hf
  | false =>
    rw [hn, if_neg Bool.false_ne_true] at hf
    cases hf
    exact ⟨v, rfl, A, d, hx, hn, q _ H' (.same rfl rfl)⟩
/-! ### dicts -/
theorem e_newD : PE X (.Dict [] [] pos) (tE (kb X C) (evE cf .newD)) := by
  refine PE.le pe_dnewK ?_
  rintro σ H Q ⟨Z, M, Γ, r, b, Γ', e, q⟩
  cases e
  intro p hp
  obtain ⟨M', r', f', rv⟩ := fin r (.inr ⟨rfl, p, .dK [], rfl, hp, rfl, [], rfl, rfl, rfl⟩ : Out (kb X C) (un M Z) H (.dct [] []) (.ref p) (upd H p (.dK [])))
  exact q _ _ M' r' f' rv
end
end Dn
end

section
set_option linter.all false
set_option autoImplicit false
set_option maxRecDepth 10000
/-! DnK: comprehensions. -/
namespace Dn
open PySem PySem.Spec PyProof.Rows L2

def cB (own : List Nat) (n : Nat) : List Nat := (List.range n).filter fun i => !(own.contains i)
theorem cB_mem {own : List Nat} {n i : Nat} : i ∈ cB own n ↔ i < n ∧ i ∉ own := by
  unfold cB
  rw [List.mem_filter, List.mem_range]
  simp
theorem store_len {Γ Γ' : Env} {i : Nat} {d : D} {fr : Bool} (h : store Γ i d fr = some Γ') : Γ'.length = Γ.length := by
  unfold Dn.store at h
  split at h
  · cases h
  · cases h; exact List.length_set
  · cases h
mutual
theorem bind1_len : ∀ {g : Tg} {Γ Γ' : Env} {d : D}, bind1 Γ g d = some Γ' → Γ'.length = Γ.length
  | .nm i, Γ, Γ', d, h => store_len h
  | .tp l, Γ, Γ', d, h => by
    unfold bind1 at h
    split at h
    · exact bindL_len' h
    · cases h
theorem bindL_len' : ∀ {gs : Tgs} {Γ Γ' : Env} {ds : List D}, bindL Γ gs ds = some Γ' → Γ'.length = Γ.length
  | .nil, Γ, Γ', ds, h => by
    cases ds with
    | nil => unfold bindL at h; cases h; rfl
    | cons d ds => unfold bindL at h; cases h
  | .cons g r, Γ, Γ', ds, h => by
    cases ds with
    | nil => unfold bindL at h; cases h
    | cons d ds =>
      unfold bindL at h
      cases e : bind1 Γ g d with
      | none => rw [e] at h; cases h
      | some Γ1 => rw [e] at h; exact (bindL_len' h).trans (bind1_len e)
end
theorem wipeE_len (Γ : Env) : ∀ vs : List Nat, (wipeE Γ vs).length = Γ.length
  | [] => rfl
  | v :: vs => by unfold wipeE; rw [List.length_set, wipeE_len Γ vs]
theorem wipeE_in {Γ : Env} {i : Nat} {s : Sl} : ∀ {vs : List Nat}, (wipeE Γ vs)[i]? = some s → s = .no ∨ (i ∉ vs ∧ Γ[i]? = some s)
  | [], h => .inr ⟨by simp, h⟩
  | v :: vs, h => by
    unfold wipeE at h
    rcases get_set h with ⟨_, e⟩ | ⟨e1, e2⟩
    · exact .inl e
    · rcases wipeE_in e2 with e | ⟨e3, e4⟩
      · exact .inl e
      · refine .inr ⟨?_, e4⟩
        intro hm
        rcases List.mem_cons.mp hm with rfl | hm
        · exact e1 rfl
        · exact e3 hm
theorem backE_len (Γ0 Γ : Env) : ∀ vs : List Nat, (backE Γ0 Γ vs).length = Γ.length
  | [] => rfl
  | v :: vs => by unfold backE; rw [List.length_set, backE_len Γ0 Γ vs]
theorem backE_in {Γ0 Γ : Env} {i : Nat} {s : Sl} : ∀ {vs : List Nat}, (backE Γ0 Γ vs)[i]? = some s → (i ∈ vs ∧ s = Γ0.getD i .no) ∨ (i ∉ vs ∧ Γ[i]? = some s)
  | [], h => .inr ⟨by simp, h⟩
  | v :: vs, h => by
    unfold backE at h
    rcases get_set h with ⟨rfl, e⟩ | ⟨e1, e2⟩
    · exact .inl ⟨by simp, e⟩
    · rcases backE_in e2 with ⟨e3, e⟩ | ⟨e3, e4⟩
      · exact .inl ⟨List.mem_cons_of_mem _ e3, e⟩
      · refine .inr ⟨?_, e4⟩
        intro hm
        rcases List.mem_cons.mp hm with rfl | hm
        · exact e1 rfl
        · exact e3 hm
section
variable {K : KB} {Z : AS} {Γ Γ' : Env} {σ : L2.St} {H H' : Hp} {M M' : AS}
theorem Rel.wipe (r : Rel K Z Γ σ H M) (vs : List Nat) : Rel K Z (wipeE Γ vs) (wipe σ vs) H M := by
  have get : ∀ {i : Nat}, i ∉ vs → (L2.wipe σ vs)[i]? = σ[i]? := fun {i} h => wipe_out h
  refine ⟨by rw [wipeE_len, wipe_length]; exact r.len, fun i s e => ?_, fun i j s t a hij ei ej si sj q => ?_, r.zm, r.zd, r.md, r.tb, r.nc⟩
  · rcases wipeE_in e with rfl | ⟨hn, e⟩
    · trivial
    · rw [get hn]; exact r.sl i s e
  · rcases wipeE_in ei with rfl | ⟨hi, ei⟩
    · cases si
    · rcases wipeE_in ej with rfl | ⟨hj, ej⟩
      · cases sj
      · rw [get hi] at q
        rw [get hj]
        exact r.inj i j s t a hij ei ej si sj q
end
theorem wipe_eq {own : List Nat} {n : Nat} {σ σ2 : L2.St} (hl : σ2.length = σ.length) (hn : σ.length = n) (h : Eqs (cB own n) (wipe σ own) σ2) : wipe σ2 own = wipe σ own := by
  have w : ∀ {τ : L2.St} {i : Nat}, i ∈ own → i < τ.length → (wipe τ own)[i]? = some none := fun {τ i} hi hlt => by
    have hlt' : i < (wipe τ own).length := by rw [wipe_length]; exact hlt
    rw [List.getElem?_eq_getElem hlt']
    cases e : (wipe τ own)[i] with
    | none => rfl
    | some x => exact absurd hi (wipe_some (by rw [List.getElem?_eq_getElem hlt', e])).2
  apply List.ext_getElem?
  intro i
  by_cases hi : i < n
  · by_cases ho : i ∈ own
    · rw [w ho (by omega), w ho (by omega)]
    · rw [wipe_out ho]
      exact h i (cB_mem.mpr ⟨hi, ho⟩)
  · rw [List.getElem?_eq_none (by rw [wipe_length]; omega), List.getElem?_eq_none (by rw [wipe_length]; omega)]
theorem Fr.and1 {H H' : Hp} {M M' : AS} {a : Addr} (f : Fr H M H' M') : Fr H (and1 M a) H' (and1 M' a) := by
  refine ⟨fun b o e n => f.kp b o e fun m => n (.inl m), fun b m => ?_, f.dm⟩
  rcases m with m | m
  · rcases f.nw b m with h | h
    · exact .inl (.inl h)
    · exact .inr h
  · exact .inl (.inr m)
def tTs (K : KB) (f : Env → Res Bool) : TT := tT K f
section
variable {X : Cx} {C : Cl} {W : WX} {cf : CallF} {pos p2 : Pos} {tg it elt : Expr} {ifs : List Expr}
theorem ts_nil : PTs X [] (tT (kb X C) (evTs cf .nil)) := ⟨fun pins s σ H Q I q => pts_nil.run pins s σ H Q I (by
  obtain ⟨Z, M, Γ, r, b, Γ', e, q⟩ := q
  cases e
  exact q H M r Fr.refl)⟩
theorem ts_one {c : Expr} {t : T} (h : PT X c (tT (kb X C) (evT cf t))) : PTs X [c] (tT (kb X C) (evTs cf (.one t))) := pts_one h
theorem compL_cons {step : D → Env → Res (Option D)} {x : D} {r acc : List D} {Γ Γ' : Env} {l : List D} (h : compL step (x :: r) acc Γ = .ok l Γ') :
    (∃ d Γ1, step x Γ = .ok (some d) Γ1 ∧ okLen acc.length = true ∧ compL step r (d :: acc) Γ1 = .ok l Γ') ∨ (∃ Γ1, step x Γ = .ok none Γ1 ∧ compL step r acc Γ1 = .ok l Γ') := by
  unfold compL at h
  split at h
  · rename_i d Γ1 e
    split at h
    · rename_i hl
      exact .inl ⟨d, Γ1, e, hl, h⟩
    · cases h
  · rename_i Γ1 e
    exact .inr ⟨Γ1, e, h⟩
  · cases h
/-- a comprehension's reading -/
theorem lc_to {ee : E} {g : Tg} {i : I} {c : Ts} {own : List Nat} {n : Nat} : ∀ σ H Q, tE (kb X C) (evE cf (.cmp1 ee g i c own n)) σ H Q →
    tLc (tI (kb X C) (evI cf i)) (tG (kb X C) (cB own n) fun Γ => bind1 Γ g) (tT (kb X C) (evTs cf c)) (tE (kb X C) (evE cf ee)) own σ H Q := by
  rintro σ H0 Q ⟨Z, M, Γ, r, w, Γe, e, q⟩
  unfold evE at e
  obtain ⟨xs, Γ1, e1, e⟩ := Res.bind_ok e
  generalize hst : (fun x Γ => match bind1 Γ g x with
        | some Γ' => (evTs cf c Γ').bind fun b Γ2 => if b = true then (evE cf ee Γ2).bind fun r Γ3 => Res.ok (some r.1) (wipeE Γ3 own) else Res.ok none (wipeE Γ2 own)
        | none => .no) = step at e
  split at e
  rotate_left
  · cases e
  rename_i hno
  simp only [Bool.and_eq_true] at hno
  obtain ⟨hno, hlen⟩ := hno
  have hlen : Γ1.length = n := Nat.eq_of_beq_eq_true hlen
  obtain ⟨l, Γ2, e2, e⟩ := Res.bind_ok e
  cases e
  refine ⟨Z, M, Γ, r, xs, Γ1, e1, fun J H1 M1 r1 f1 dw D hD => ?_⟩
  obtain ⟨GG, Y, wk, hG, hY⟩ := dw
  have hsl : σ.length = n := by rw [← r1.len]; exact hlen
  have nZ : ¬ Z D := fun z => r1.zd D z hD
  have nM : ¬ M1 D := fun z => r1.md D z hD
  -- the new list, put aside
  obtain ⟨rn, fn, kn⟩ := r1.new hD (.lst [])
  have r2 : Rel (kb X C) (Dn.and1 Z D) Γ1 σ (upd H1 D (.lst [])) M1 := by
    refine ⟨rn.len, fun i s e => ?_, rn.inj, fun a z m => ?_, fun a z => ?_, rn.md, rn.tb, fun a z x q => ?_⟩
    rotate_left 3
    · rcases z with z | z | z
      · exact rn.nc a (.inl z) x q
      · exact rn.nc a (.inr z) x q
      · rw [z, upd_same]; exact fun z => by cases z
    rotate_right 0
    · have h := rn.sl i s e
      have k : ∀ a o, upd H1 D (.lst []) a = some o → ¬ un M1 Z a → upd H1 D (.lst []) a = some o ∧ ¬ un M1 Z a := fun a o e n => ⟨e, n⟩
      have z := r1.sl i s e
      have kk : ∀ a o, H1 a = some o → ¬ un M1 Z a → upd H1 D (.lst []) a = some o ∧ ¬ un M1 (Dn.and1 Z D) a := fun a o e n => by
        have ne := ne_of_none e hD
        refine ⟨by rw [upd_ne ne]; exact e, fun u => ?_⟩
        rcases u with u | u | u
        · exact n (.inl u)
        · exact n (.inr u)
        · exact ne u
      cases s with
      | no => trivial
      | sh d => obtain ⟨v, e1, hp⟩ := z; exact ⟨v, e1, hp.mono kk _ _⟩
      | ow d => obtain ⟨a, e1, m, ho⟩ := z; exact ⟨a, e1, m, ho.mono (upd_ne (fun z => nM (by rw [← z]; exact m))) kk⟩
      | bo d => obtain ⟨a, e1, m, ho⟩ := z; exact ⟨a, e1, m, ho.mono (upd_ne (fun z => nM (by rw [← z]; exact m))) kk⟩
    · rcases z with z | rfl
      · exact rn.zm a z m
      · exact nM m
    · rcases z with z | rfl
      · exact rn.zd a z
      · rw [upd_same]; exact fun h => nomatch h
  have zmD : ∀ a, Z a → ¬ Dn.and1 M1 D a := fun a z m => by
    rcases m with m | rfl
    · exact r1.zm a z m
    · exact nZ z
  have kp0 : ∀ {H : Hp} {M' : AS}, Fr (upd H1 D (.lst [])) (Dn.and1 M1 D) H (Dn.and1 M' D) → Kp H1 (un M1 Z) H (un M' (Dn.and1 Z D)) := fun {H M'} f a o e n => by
    have ne := ne_of_none e hD
    have h2 : upd H1 D (.lst []) a = some o := by rw [upd_ne ne]; exact e
    obtain ⟨h3, h4⟩ := f.out zmD a o h2 fun u => by
      rcases u with (u | u) | u
      · exact n (.inl u)
      · exact ne u
      · exact n (.inr u)
    refine ⟨h3, fun u => h4 ?_⟩
    rcases u with u | u | u
    · exact .inl (.inl u)
    · exact .inr u
    · exact .inl (.inr u)
  refine ⟨fun i m H => m = xs.length - i ∧ i ≤ xs.length ∧ ∃ M' Γ' acc ds, Rel (kb X C) (Dn.and1 Z D) Γ' (wipe σ own) H M' ∧ Fr (upd H1 D (.lst [])) (Dn.and1 M1 D) H (Dn.and1 M' D) ∧ H D = some (.lst acc) ∧ Rps (kb X C) H (un M' (Dn.and1 Z D)) ds acc ∧
      compL step (xs.drop i) ds.reverse Γ' = .ok l Γ2, ⟨xs.length, by simp, Nat.zero_le _, M1, wipeE Γ1 own, [], [], r2.wipe own, Fr.refl, upd_same, rfl, e2⟩, ?_⟩
  rintro i m H ⟨rfl, hi, M', Γ', acc, ds, r', f', hDa, hac, hc⟩
  by_cases hlt : i < xs.length
  rotate_left
  · have ei : i = xs.length := by omega
    subst ei
    rw [List.drop_length] at hc
    have hc' : Res.ok ds.reverse.reverse Γ' = .ok l Γ2 := hc
    rw [List.reverse_reverse] at hc'
    cases hc'
    refine .inl ⟨wk.stops H (hG H _ (kp0 f')), ?_⟩
    -- back in the def's frame
    have ra := r'.aback nZ
    have k1 := kp0 f'
    have k2 : Kp H1 (un M1 Z) H (un (Dn.and1 M' D) Z) := fun a o e n => by
      obtain ⟨h1, h2⟩ := k1 a o e n
      refine ⟨h1, fun u => h2 ?_⟩
      rcases u with (u | u) | u
      · exact .inl u
      · exact .inr (.inr u)
      · exact .inr (.inl u)
    have noo : ∀ {i : Nat} {s : Sl}, i ∈ own → Γ1[i]? = some s → s.isOwn = false := fun {i s} hi e => by
      have h := List.all_eq_true.mp hno i hi
      rw [e] at h
      have h : (!s.isOwn) = true := h
      cases hs : s.isOwn with
      | false => rfl
      | true => rw [hs] at h; cases h
    have rb : Rel (kb X C) Z (backE Γ1 Γ2 own) σ H (Dn.and1 M' D) := by
      refine ⟨by rw [backE_len, r'.len, wipe_length], fun i s e => ?_, fun i j s t a hij ei ej si sj q => ?_, ra.zm, ra.zd, ra.md, ra.tb, ra.nc⟩
      · rcases backE_in e with ⟨hi, es⟩ | ⟨hi, e⟩
        · cases e1 : Γ1[i]? with
          | none => rw [List.getD_eq_getElem?_getD, e1] at es; subst es; trivial
          | some s1 =>
            rw [List.getD_eq_getElem?_getD, e1] at es
            have es : s = s1 := es
            subst es
            have z := r1.sl i s e1
            have hs := noo hi e1
            cases s with
            | no => trivial
            | sh d => obtain ⟨v, e1, hp⟩ := z; exact ⟨v, e1, hp.mono k2 _ _⟩
            | ow d => cases hs
            | bo d => cases hs
        · have h := ra.sl i s e
          rw [wipe_out hi] at h
          exact h
      · rcases backE_in ei with ⟨hi, es⟩ | ⟨hi, ei⟩
        · cases e1 : Γ1[i]? with
          | none => rw [List.getD_eq_getElem?_getD, e1] at es; subst es; cases si
          | some s1 =>
            rw [List.getD_eq_getElem?_getD, e1] at es
            have es : s = s1 := es
            subst es
            rw [noo hi e1] at si
            cases si
        · rcases backE_in ej with ⟨hj, es⟩ | ⟨hj, ej⟩
          · cases e1 : Γ1[j]? with
            | none => rw [List.getD_eq_getElem?_getD, e1] at es; subst es; cases sj
            | some s1 =>
              rw [List.getD_eq_getElem?_getD, e1] at es
              have es : t = s1 := es
              subst es
              rw [noo hj e1] at sj
              cases sj
          · have h := ra.inj i j s t a hij ei ej si sj (by rw [wipe_out hi]; exact q)
            rw [wipe_out hj] at h
            exact h
    have fb : Fr H0 M H (Dn.and1 M' D) := by
      have f3 : Fr H1 M1 H (Dn.and1 M' D) := by
        refine ⟨fun a o e n => ?_, fun a m => ?_, fun a n => f'.dm a (fn.dm a n)⟩
        · have ne := ne_of_none e hD
          refine f'.kp a o (by rw [upd_ne ne]; exact e) fun m => ?_
          rcases m with m | m
          · exact n m
          · exact ne m
        · by_cases z : a = D
          · subst z; exact .inr hD
          · rcases f'.nw a m with (h | h) | h
            · exact .inl h
            · exact absurd h z
            · rw [upd_ne z] at h; exact .inr h
      exact f1.trans f3
    refine q (.ref D) H _ rb fb ?_
    unfold RVal
    rw [if_pos rfl]
    refine ⟨D, rfl, .inr rfl, ⟨acc, hDa, ?_⟩, fun i s e so z => ?_⟩
    · refine Rps.mono (fun a o e n => ⟨e, fun u => n ?_⟩) _ _ hac
      rcases u with (u | u) | u
      · exact .inl u
      · exact .inr (.inr u)
      · exact .inr (.inl u)
    · rcases backE_in e with ⟨hi, es⟩ | ⟨hi, e⟩
      · cases e1 : Γ1[i]? with
        | none => rw [List.getD_eq_getElem?_getD, e1] at es; subst es; cases so
        | some s1 =>
          rw [List.getD_eq_getElem?_getD, e1] at es
          have es : s = s1 := es
          subst es
          rw [noo hi e1] at so
          cases so
      · have h := r'.sl i s e
        rw [wipe_out hi, z] at h
        cases s with
        | no => cases so
        | sh d => cases so
        | ow d => obtain ⟨a, e1, m, _⟩ := h; cases e1; exact r'.zm D (.inr rfl) m
        | bo d => obtain ⟨a, e1, m, _⟩ := h; cases e1; exact r'.zm D (.inr rfl) m
  · have kpi := kp0 f'
    refine .inr ⟨wk.goes i H hlt (hG H _ kpi), fun H' => ∃ M' Γ' acc ds, Rel (kb X C) (Dn.and1 Z D) Γ' (wipe σ own) H' M' ∧ Fr (upd H1 D (.lst [])) (Dn.and1 M1 D) H' (Dn.and1 M' D) ∧ H' D = some (.lst acc) ∧ Rps (kb X C) H' (un M' (Dn.and1 Z D)) ds acc ∧
      compL step (xs.drop (i + 1)) ds.reverse Γ' = .ok l Γ2, fun H' nx => ⟨xs.length - (i + 1), by omega, rfl, hlt, nx⟩, fun x H' y => ?_⟩
    obtain ⟨hH, d, hd, hp⟩ := hY i H x H' (un M' (Dn.and1 Z D)) hlt kpi (fun a h => r'.dom h) (wk.yields i H x H' hlt (hG H _ kpi) y)
    have grow : Rel (kb X C) (Dn.and1 Z D) Γ' (wipe σ own) H' M' ∧ Fr H M' H' M' ∧ (∀ b u, H b = some u → ¬ un M' (Dn.and1 Z D) b → H' b = some u ∧ ¬ un M' (Dn.and1 Z D) b) ∧ H' D = H D := by
      rcases hH with rfl | ⟨p, o, hnew, rfl⟩
      · exact ⟨r', Fr.refl, fun b u e n => ⟨e, n⟩, rfl⟩
      · obtain ⟨a1, a2, a3⟩ := r'.new hnew o
        exact ⟨a1, a2, a3, upd_ne (ne_of_none hDa hnew)⟩
    obtain ⟨r3, f3, k3, hD3⟩ := grow
    have hdrop : xs.drop i = d :: xs.drop (i + 1) := by
      rw [List.drop_eq_getElem_cons hlt]
      rw [List.getElem?_eq_getElem hlt] at hd
      rw [Option.some.inj hd]
    rw [hdrop] at hc
    have est : step d Γ' = match bind1 Γ' g d with
        | some Γ' => (evTs cf c Γ').bind fun b Γ2 => if b = true then (evE cf ee Γ2).bind fun r Γ3 => Res.ok (some r.1) (wipeE Γ3 own) else Res.ok none (wipeE Γ2 own)
        | none => .no := by rw [← hst]
    have hstep : ∃ o Γ5, step d Γ' = .ok o Γ5 := by
      rcases compL_cons hc with ⟨y, Γ5, e5, _⟩ | ⟨Γ5, e5, _⟩
      · exact ⟨_, _, e5⟩
      · exact ⟨_, _, e5⟩
    obtain ⟨o, Γ5, e5⟩ := hstep
    rw [est] at e5
    cases e6 : bind1 Γ' g d with
    | none => rw [e6] at e5; cases e5
    | some Γ3 =>
      rw [e6] at e5
      dsimp only at e5
      obtain ⟨b, Γ4, e7, e8⟩ := Res.bind_ok e5
      refine ⟨Dn.and1 Z D, M', Γ', r3, d, Γ3, e6, hp, fun σ2 r4 eq4 => ⟨wipe_eq ?_ hsl eq4, Dn.and1 Z D, M', Γ3, r4, b, Γ4, e7, fun H5 M5 r5 f5 => ?_⟩⟩
      · rw [← r4.len, bind1_len e6, r'.len, wipe_length]
      · have heq : wipe σ2 own = wipe σ own := wipe_eq (by rw [← r4.len, bind1_len e6, r'.len, wipe_length]) hsl eq4
        have zD : Dn.and1 Z D D := .inr rfl
        have keepD : ∀ {Ha Hb : Hp} {Ma Mb : AS}, Rel (kb X C) (Dn.and1 Z D) Γ3 σ2 Ha Ma ∨ Rel (kb X C) (Dn.and1 Z D) Γ4 σ2 Ha Ma → Fr Ha Ma Hb Mb → ∀ o, Ha D = some o → Hb D = some o := fun {Ha Hb Ma Mb} r f o e => f.kp D o e (r.elim (fun r => r.zm D zD) fun r => r.zm D zD)
        have hD4 : H' D = some (.lst acc) := by rw [hD3]; exact hDa
        have hD5 : H5 D = some (.lst acc) := keepD (.inl r4) f5 _ hD4
        have f03 : Fr (upd H1 D (.lst [])) (Dn.and1 M1 D) H5 (Dn.and1 M5 D) := (f'.trans f3.and1).trans f5.and1
        have hac5 : Rps (kb X C) H5 (un M5 (Dn.and1 Z D)) ds acc := Rps.mono (f5.out r4.zm) _ _ (Rps.mono k3 _ _ hac)
        cases b with
        | false =>
          rw [if_neg Bool.false_ne_true] at e8
          show (if false = true then _ else _)
          rw [if_neg Bool.false_ne_true]
          cases e8
          refine ⟨M5, wipeE Γ4 own, acc, ds, by rw [← heq]; exact r5.wipe own, f03, hD5, hac5, ?_⟩
          rcases compL_cons hc with ⟨y, Γ6, e9, _⟩ | ⟨Γ6, e9, h⟩
          · rw [est, e6] at e9
            dsimp only at e9
            rw [e5] at e9
            cases e9
          · rw [est, e6] at e9
            dsimp only at e9
            rw [e5] at e9
            cases e9
            exact h
        | true =>
          rw [if_pos rfl] at e8
          show (if true = true then _ else _)
          rw [if_pos rfl]
          obtain ⟨z, Γ6, e9, e10⟩ := Res.bind_ok e8
          cases e10
          refine ⟨Dn.and1 Z D, M5, Γ4, r5, z, Γ6, e9, fun v H6 M6 r6 f6 rv => ?_⟩
          obtain ⟨M7, r7, f7, hv⟩ := rv.frozen r6
          have hD6 : H6 D = some (.lst acc) := keepD (.inr r5) f6 _ hD5
          have k67 : ∀ a o, H5 a = some o → ¬ un M5 (Dn.and1 Z D) a → H6 a = some o ∧ ¬ un M7 (Dn.and1 Z D) a := (f6.trans f7).out r5.zm
          have hac7 : Rps (kb X C) H6 (un M7 (Dn.and1 Z D)) ds acc := Rps.mono k67 _ _ hac5
          rcases compL_cons hc with ⟨y, Γ8, e11, hok, h⟩ | ⟨Γ8, e11, h⟩
          · rw [est, e6] at e11
            dsimp only at e11
            rw [e5] at e11
            cases e11
            have hl := hac7.len
            refine ⟨acc, hD6, by rw [← hl]; rw [List.length_reverse] at hok; exact (len_ok hok).1, M7, wipeE Γ6 own, acc ++ [v], ds ++ [z.1], ?_, ?_, upd_same, ?_, ?_⟩
            · have rw7 := r7.wipe own
              rw [heq] at rw7
              have kk : ∀ a o, H6 a = some o → ¬ un M7 (Dn.and1 Z D) a → upd H6 D (.lst (acc ++ [v])) a = some o ∧ ¬ un M7 (Dn.and1 Z D) a := fun a o e n => ⟨by rw [upd_ne fun u => n (.inr (.inr u))]; exact e, n⟩
              have nM7 : ∀ {a : Addr}, M7 a → a ≠ D := fun {a} m u => r7.zm D zD (by rw [← u]; exact m)
              refine ⟨rw7.len, fun i s e => ?_, rw7.inj, rw7.zm, fun a z => ?_, fun a m => ?_, fun p hp => ⟨(rw7.tb p hp).1, tab_upd (fun ps z => by rw [hD6] at z; cases z) (fun c q z => by rw [hD6] at z; cases z) (rw7.tb p hp).2⟩, fun a z x q => ?_⟩
              · have z := rw7.sl i s e
                cases s with
                | no => trivial
                | sh d => obtain ⟨v, e1, hp⟩ := z; exact ⟨v, e1, hp.mono kk _ _⟩
                | ow d => obtain ⟨a, e1, m, ho⟩ := z; exact ⟨a, e1, m, ho.mono (upd_ne (nM7 m)) kk⟩
                | bo d => obtain ⟨a, e1, m, ho⟩ := z; exact ⟨a, e1, m, ho.mono (upd_ne (nM7 m)) kk⟩
              · by_cases u : a = D
                · subst u; rw [upd_same]; exact fun h => nomatch h
                · rw [upd_ne u]; exact rw7.zd a z
              · rw [upd_ne (nM7 m)]; exact rw7.md a m
              · by_cases u : a = D
                · subst u; rw [upd_same]; exact fun h => nomatch h
                · rw [upd_ne u]; exact rw7.nc a z x q
            · have f8 : Fr H6 (Dn.and1 M7 D) (upd H6 D (.lst (acc ++ [v]))) (Dn.and1 M7 D) := by
                refine ⟨fun a o e n => by rw [upd_ne fun u => n (.inr u)]; exact e, fun a m => .inl m, fun a n => ?_⟩
                by_cases u : a = D
                · subst u; rw [upd_same]; exact fun h => nomatch h
                · rw [upd_ne u]; exact n
              exact ((f03.trans f6.and1).trans f7.and1).trans f8
            · have kk : ∀ a o, H6 a = some o → ¬ un M7 (Dn.and1 Z D) a → upd H6 D (.lst (acc ++ [v])) a = some o ∧ ¬ un M7 (Dn.and1 Z D) a := fun a o e n => ⟨by rw [upd_ne fun u => n (.inr (.inr u))]; exact e, n⟩
              exact (Rps.mono kk _ _ hac7).app (Rps.one (hv.mono kk _ _))
            · rw [List.reverse_append]
              exact h
          · rw [est, e6] at e11
            dsimp only at e11
            rw [e5] at e11
            cases e11
/-- [e for g in i if c] -/
theorem e_lc {ee : E} {g : Tg} {i : I} {c : Ts} {own : List (Str × Nat)} {n : Nat} {scope : Scope} (G : Gd X) (hi : PI X tg it (tI (kb X C) (evI cf i))) (ok : BlkOk X.N X.env.scope scope own)
    (hg : ∀ (s : Shared) (H : Hp) (Ca : Addr) (cl : List (Str × Addr)) (fp : List Addr), PG (X.blk s H scope (compEnvC scope cl Ca X.env) fp) tg (tG (kb X C) (cB (own.map (·.2)) n) fun Γ => bind1 Γ g))
    (ht : ∀ (s : Shared) (H : Hp) (Ca : Addr) (cl : List (Str × Addr)) (fp : List Addr), PTs (X.blk s H scope (compEnvC scope cl Ca X.env) fp) ifs (tT (kb X C) (evTs cf c)))
    (he : ∀ (s : Shared) (H : Hp) (Ca : Addr) (cl : List (Str × Addr)) (fp : List Addr), PE (X.blk s H scope (compEnvC scope cl Ca X.env) fp) elt (tE (kb X C) (evE cf ee)))
    (hs : ∀ x, foldedSetIterable it X.env x = pure x := by intro _; rfl) :
    PE X (.ListComp elt [⟨tg, it, ifs, 0⟩] scope pos) (tE (kb X C) (evE cf (.cmp1 ee g i c (own.map (·.2)) n))) :=
  PE.le (pe_lc G.calm G.nd hi ok hg ht he hs) lc_to
/-- name = [e for g in i if c], the name on the comprehension's line -/
theorem s_lc {B : List Nat} {ee : E} {g : Tg} {i : I} {c : Ts} {own : List (Str × Nat)} {n j : Nat} {scope : Scope} {y : Str} {py : Pos} (G : Gd X) (hi : PI X tg it (tI (kb X C) (evI cf i))) (ok : BlkOk X.N X.env.scope scope own)
    (hg : ∀ (s : Shared) (H : Hp) (Ca : Addr) (cl : List (Str × Addr)) (fp : List Addr), PG (X.blk s H scope (compEnvC scope cl Ca X.env) fp) tg (tG (kb X C) (cB (own.map (·.2)) n) fun Γ => bind1 Γ g))
    (ht : ∀ (s : Shared) (H : Hp) (Ca : Addr) (cl : List (Str × Addr)) (fp : List Addr), PTs (X.blk s H scope (compEnvC scope cl Ca X.env) fp) ifs (tT (kb X C) (evTs cf c)))
    (he : ∀ (s : Shared) (H : Hp) (Ca : Addr) (cl : List (Str × Addr)) (fp : List Addr), PE (X.blk s H scope (compEnvC scope cl Ca X.env) fp) elt (tE (kb X C) (evE cf ee)))
    (hsw : swapsWith (.ListComp elt [⟨tg, it, ifs, 0⟩] scope p2) (some (.Name y py)) pos.line X.env = pure true)
    (hy : X.N[j]? = some y := by rfl) (hyl : X.env.scope.names.lookup y = some .local := by rfl) (hB : j ∉ B := by decide)
    (hs : ∀ x, foldedSetIterable it X.env x = pure x := by intro _; rfl) :
    PS X (.Assign [.Name y py] (.ListComp elt [⟨tg, it, ifs, 0⟩] scope p2) pos) (tS (kb X C) W B (evS cf (.asg (.nm j) (.cmp1 ee g i c (own.map (·.2)) n)))) :=
  PS.le (ps_setLc G.calm G.nd hy hyl hsw hi ok hg ht he hs) fun D σ H q => lc_to σ H _ (le_asg hB D σ H q)
theorem Gd.blk (G : Gd X) {s : Shared} {H : Hp} {Ca : Addr} {cl : List (Str × Addr)} {fp : List Addr} {scope : Scope} : Gd (X.blk s H scope (compEnvC scope cl Ca X.env) fp) := ⟨G.calm, G.un, G.gd, G.nd, PassesOwn.never⟩
end
end Dn
end

section
set_option linter.all false
set_option autoImplicit false
set_option maxRecDepth 10000
/-! DnL: calls of defs. -/
namespace Dn
open PySem PySem.Spec PyProof.Rows L2

/-! ### what a def promises -/
def ArgsOk (K : KB) (H : Hp) (A : AS) : List Bool → List D → List V → List Addr → Prop
  | [], [], [], [] => True
  | false :: ms, d :: ds, v :: vs, rs => Rp K H A d v ∧ ArgsOk K H A ms ds vs rs
  | true :: ms, d :: ds, v :: vs, a :: rs => v = .ref a ∧ Own K H A a d ∧ ArgsOk K H A ms ds vs rs
  | _, _, _, _ => False
def OutsOk (K : KB) (H : Hp) (A : AS) : List D → List Addr → Prop
  | [], [] => True
  | d :: ds, a :: rs => Own K H A a d ∧ OutsOk K H A ds rs
  | _, _ => False
/-- what a callee may change: what is lent, the tables -/
def onT (K : KB) (rs : List Addr) : AS := fun a => a ∈ rs ∨ ∃ p ∈ tabs K.k, p.1 = a
/-- a callee's end -/
structure Post (K : KB) (Z : AS) (rs : List Addr) (H H' : Hp) (M' : AS) : Prop where
  fr : Fr H (onT K rs) H' M'
  rs : ∀ a ∈ rs, M' a
  tb : ∀ p ∈ tabs K.k, M' p.1 ∧ LamX.TabS H' p.1 p.2
  zm : ∀ a, Z a → ¬ M' a
  md : ∀ a, M' a → H' a ≠ none
  nc : ∀ a, M' a → ∀ (_ : Addr) (q : Heap → Prop), H' a ≠ some (.ext q)
/-- what is wished of the answer -/
def OcOk (K : KB) (Z : AS) (rs : List Addr) (H : Hp) (Q : VK) (E : XK) : Oc → Prop
  | .ok d fr os => ∀ v H' M', Post K Z rs H H' M' → OutsOk K H' (un M' Z) os rs → (if fr = true then ∃ p, v = .ref p ∧ M' p ∧ Own K H' (un M' Z) p d ∧ p ∉ rs else Rp K H' (un M' Z) d v) → Q v H'
  | .ex c d => ∀ H' M' dx, Post K Z rs H H' M' → ExAt K H' (un M' Z) d dx → E (.ref (He.ga K.k c)) (some dx) H'
/-- g: the answer by the arguments' data -/
def spD (K : KB) (g : List D → Option Oc) (ms : List Bool) : Sp := fun vs H Q E =>
  ∃ Z ds rs oc, g ds = some oc ∧ ArgsOk K H (un (onT K rs) Z) ms ds vs rs ∧ rs.Nodup ∧ (∀ a, Z a → ¬ onT K rs a) ∧ (∀ a, Z a → H a ≠ none) ∧ (∀ p ∈ tabs K.k, LamX.TabS H p.1 p.2) ∧ (∀ a, Z a → ∀ (_ : Addr) (q : Heap → Prop), H a ≠ some (.ext q)) ∧ OcOk K Z rs H Q E oc
theorem ArgsOk.len {K : KB} {H : Hp} {A : AS} : ∀ {ms : List Bool} {ds : List D} {vs : List V} {rs : List Addr}, ArgsOk K H A ms ds vs rs → ds.length = ms.length ∧ vs.length = ms.length
  | [], ds, vs, rs, h => by
    cases ds <;> cases vs <;> cases rs <;> first | exact ⟨rfl, rfl⟩ | exact h.elim
  | false :: ms, [], vs, rs, h => h.elim
  | false :: ms, d :: ds, [], rs, h => h.elim
  | false :: ms, d :: ds, v :: vs, rs, h => by
    obtain ⟨e1, e2⟩ := ArgsOk.len h.2
    exact ⟨congrArg Nat.succ e1, congrArg Nat.succ e2⟩
  | true :: ms, [], vs, rs, h => h.elim
  | true :: ms, d :: ds, [], rs, h => h.elim
  | true :: ms, d :: ds, v :: vs, [], h => h.elim
  | true :: ms, d :: ds, v :: vs, a :: rs, h => by
    obtain ⟨e1, e2⟩ := ArgsOk.len h.2.2
    exact ⟨congrArg Nat.succ e1, congrArg Nat.succ e2⟩
theorem ArgsOk.noCode {K : KB} {H : Hp} {A : AS} : ∀ {ms : List Bool} {ds : List D} {vs : List V} {rs : List Addr}, ArgsOk K H A ms ds vs rs → ∀ a ∈ rs, ∀ (_ : Addr) (q : Heap → Prop), H a ≠ some (.ext q)
  | [], ds, vs, rs, h => by
    cases ds <;> cases vs <;> cases rs <;> first | (intro a m; cases m; done) | exact h.elim
  | false :: ms, [], vs, rs, h => h.elim
  | false :: ms, d :: ds, [], rs, h => h.elim
  | false :: ms, d :: ds, v :: vs, rs, h => ArgsOk.noCode h.2
  | true :: ms, [], vs, rs, h => h.elim
  | true :: ms, d :: ds, [], rs, h => h.elim
  | true :: ms, d :: ds, v :: vs, [], h => h.elim
  | true :: ms, d :: ds, v :: vs, a :: rs, h => fun b m => by
    rcases List.mem_cons.mp m with rfl | m
    · exact h.2.1.noExt
    · exact ArgsOk.noCode h.2.2 b m
theorem ArgsOk.there {K : KB} {H : Hp} {A : AS} : ∀ {ms : List Bool} {ds : List D} {vs : List V} {rs : List Addr}, ArgsOk K H A ms ds vs rs → ∀ a ∈ rs, H a ≠ none
  | [], ds, vs, rs, h => by
    cases ds <;> cases vs <;> cases rs <;> first | (intro a m; cases m; done) | exact h.elim
  | false :: ms, [], vs, rs, h => h.elim
  | false :: ms, d :: ds, [], rs, h => h.elim
  | false :: ms, d :: ds, v :: vs, rs, h => ArgsOk.there h.2
  | true :: ms, [], vs, rs, h => h.elim
  | true :: ms, d :: ds, [], rs, h => h.elim
  | true :: ms, d :: ds, v :: vs, [], h => h.elim
  | true :: ms, d :: ds, v :: vs, a :: rs, h => fun b m => by
    rcases List.mem_cons.mp m with rfl | m
    · exact h.2.1.there
    · exact ArgsOk.there h.2.2 b m
/-- a def runs as promised, where no guard stands -/
structure FnG (P : Program) (w : World) (K : PySem.W.Frag) (mg : Str → Option Value) (base : Heap) (k : Nat) (f : Addr) (fd : FuncData) (ps : List Str) (sp : Sp) : Prop where
  len : ∀ vs H Q E, sp vs H Q E → vs.length = ps.length
  run : ∀ (A : Around) (outer : List PySem.Env) (s : Shared) (H : Hp) (args : Args) (us : List Value) (vs : List V) (Q : VK) (E : XK), A.guards = some [] → Room k A → Env0 P w K mg base A outer s H → BindsTo s fd args (ps.zip us) → Vals vs us → sp vs H Q E →
    codeAny (model P w) A (.call (.ref f) args) (fun r s' => (∃ u, r = .ok (.ret u) ∧ CE outer P w H s Q u s') ∨ ∃ e, r = .error e ∧ L2.CX P w outer H s E e s') s
section
variable {X : Cx} {k : Nat} {f : Addr} {fd : FuncData} {ps : List Str} {sp : Sp}
theorem run_g {pins : List (Addr × Obj)} {σ : L2.St} {H : Hp} {s : Shared} {Q : VK} {E : XK} {us : List Value} {vs : List V} (G : Gd X) (F : FnG X.prog X.w X.K X.mg X.base k f fd ps sp) (hr : Room k X.A) (hb : Binds X.K fd ps [])
    (hx : ∀ e s', L2.CX X.prog X.w X.stack H s E e s' → X.xe e s') (I : Inv X pins σ H s) (r : Vals vs us) (h : sp vs H Q E) : wpAny (model X.prog X.w) X.A (PySem.call (.ref f) us) (EP X pins σ Q) X.xe s := by
  have e := hb s us I.kIn (by rw [List.append_nil, ← r.length]; exact F.len _ _ _ _ h)
  rw [List.append_nil] at e
  refine wpAny_call (codeAny_mono (F.run X.A X.stack s H ⟨us, []⟩ us vs Q E G.gd hr I.env0 e r h) fun r s' hq => ?_)
  rcases hq with ⟨u, e, c⟩ | ⟨u, e, c⟩
  · subst e
    exact I.after c
  · subst e
    exact hx u s' c
/-- nothing is raised -/
def E0 : XK := fun _ _ _ => False
theorem no_cx {H : Hp} {s : Shared} : ∀ e s', L2.CX X.prog X.w X.stack H s E0 e s' → X.xe e s' := fun e s' ⟨_, _, _, _, _, _, _, _, _, _, _, _, h⟩ => h.elim
theorem wx_cx {W : WX} {pins : List (Addr × Obj)} {σ : L2.St} {H : Hp} {s : Shared} (tk : Takes X W) (I : Inv X pins σ H s) : ∀ e s', L2.CX X.prog X.w X.stack H s (fun cls d H' => W cls d σ H') e s' → X.xe e s' := fun e s' c => passAt tk σ pins H s e s' I c
end
/-! ### argument lists -/
def AVs (K : KB) (A : AS) (σ : L2.St) (H : Hp) : List Ah → List V → Prop
  | [], vs => vs = []
  | .v d :: r, vs => ∃ v ws, vs = v :: ws ∧ Rp K H A d v ∧ AVs K A σ H r ws
  | .r i :: r, vs => ∃ v ws, vs = v :: ws ∧ σ[i]? = some (some v) ∧ AVs K A σ H r ws
  | .t _ :: _, _ => False
def tA (K : KB) (f : Env → Res (List Ah)) : TA := fun σ H Q => ∃ Z M Γ, Rel K Z Γ σ H M ∧ ∃ hs Γ', f Γ = .ok hs Γ' ∧
  ∀ vs H' M', Rel K Z Γ' σ H' M' → Fr H M H' M' → AVs K (un M' Z) σ H' hs vs → Q vs H'
section
variable {X : Cx} {C : Cl} {W : WX} {cf : CallF} {a : Expr} {es : List Expr} {ea : E} {ra : As}
theorem as_nil : PA X [] (tA (kb X C) (evAs cf .nil)) := by
  refine PA.le pa_nil ?_
  rintro σ H Q ⟨Z, M, Γ, r, l, Γ', e, q⟩
  cases e
  exact q [] H M r Fr.refl rfl
theorem as_val (ha : PE X a (tE (kb X C) (evE cf ea))) (hr : PA X es (tA (kb X C) (evAs cf ra))) (hs : noStar a = true := by rfl) : PA X (a :: es) (tA (kb X C) (evAs cf (.val ea ra))) := by
  refine PA.le (pa_cons ha hr (star1 hs)) ?_
  rintro σ H Q ⟨Z, M, Γ, r, l, Γ', e, q⟩
  unfold evAs at e
  obtain ⟨x, Γ1, e1, e2⟩ := Res.bind_ok e
  obtain ⟨l', Γ2, e3, e4⟩ := Res.bind_ok e2
  cases e4
  refine ⟨Z, M, Γ, r, x, Γ1, e1, fun v H1 M1 r1 f1 rv => ?_⟩
  obtain ⟨M1', r1', f1', hp⟩ := rv.frozen r1
  refine ⟨Z, M1', Γ1, r1', l', _, e3, fun vs H2 M2 r2 f2 hps => ?_⟩
  exact q (v :: vs) H2 M2 r2 ((f1.trans f1').trans f2) ⟨v, vs, rfl, Rp.mono (f2.out r1'.zm) _ _ hp, hps⟩
theorem as_ref {i : Nat} (ha : PE X a (tVar i)) (hr : PA X es (tA (kb X C) (evAs cf ra))) (hs : noStar a = true := by rfl) : PA X (a :: es) (tA (kb X C) (evAs cf (.ref i ra))) := by
  refine PA.le (pa_cons ha hr (star1 hs)) ?_
  rintro σ H Q ⟨Z, M, Γ, r, l, Γ', e, q⟩
  unfold evAs at e
  split at e
  rotate_left
  · cases e
  rename_i ho
  obtain ⟨d, hd⟩ := Option.isSome_iff_exists.mp ho
  obtain ⟨a, s, e1, e2, e3, m, o⟩ := r.owned hd
  obtain ⟨l', Γ2, e4, e5⟩ := Res.bind_ok e
  cases e5
  exact ⟨_, e3, Z, M, Γ, r, l', _, e4, fun vs H2 M2 r2 f2 hps => q (.ref a :: vs) H2 M2 r2 f2 ⟨_, vs, rfl, e3, hps⟩⟩
theorem evAs_modes : ∀ {as : As} {Γ Γ' : Env} {hs : List Ah}, evAs cf as Γ = .ok hs Γ' → hs.map Ah.isR = modesAs as
  | .nil, Γ, Γ', hs, e => by cases e; rfl
  | .val a r, Γ, Γ', hs, e => by
    unfold evAs at e
    obtain ⟨x, Γ1, e1, e2⟩ := Res.bind_ok e
    obtain ⟨l', Γ2, e3, e4⟩ := Res.bind_ok e2
    cases e4
    exact congrArg (List.cons false) (evAs_modes e3)
  | .ref i r, Γ, Γ', hs, e => by
    unfold evAs at e
    split at e
    · obtain ⟨l', Γ2, e3, e4⟩ := Res.bind_ok e
      cases e4
      exact congrArg (List.cons true) (evAs_modes e3)
    · cases e
  | .tmp a r, Γ, Γ', hs, e => by
    unfold evAs at e
    obtain ⟨x, Γ1, e1, e2⟩ := Res.bind_ok e
    split at e2
    · obtain ⟨l', Γ2, e3, e4⟩ := Res.bind_ok e2
      cases e4
      exact congrArg (List.cons true) (evAs_modes e3)
    · cases e2
/-- the slots lent -/
def RefsAt (Γ : Env) (σ : L2.St) : List Nat → List Addr → Prop
  | [], [] => True
  | i :: is, a :: as => (∃ s, Γ[i]? = some s ∧ s.isOwn = true) ∧ σ[i]? = some (some (.ref a)) ∧ RefsAt Γ σ is as
  | _, _ => False
theorem args_of {K : KB} {Z : AS} {Γ : Env} {σ : L2.St} {H : Hp} {M : AS} (r : Rel K Z Γ σ H M) : ∀ {hs : List Ah} {vs : List V} {ds : List D}, AVs K (un M Z) σ H hs vs → getAll Γ hs = some ds →
    ∃ rs, ArgsOk K H (un M Z) (hs.map Ah.isR) ds vs rs ∧ RefsAt Γ σ (refsOf hs) rs ∧ ∀ a ∈ rs, M a
  | [], vs, ds, h, e => by
    cases e
    cases h
    exact ⟨[], trivial, trivial, fun a m => by cases m⟩
  | .v d :: hs, vs, ds, h, e => by
    obtain ⟨v, ws, rfl, hp, h⟩ := h
    unfold getAll at e
    obtain ⟨d', e1, e2⟩ := Option.bind_eq_some_iff.mp e
    obtain ⟨l, e3, rfl⟩ := Option.map_eq_some_iff.mp e2
    cases e1
    obtain ⟨rs, h1, h2, h3⟩ := args_of r h e3
    exact ⟨rs, ⟨hp, h1⟩, h2, h3⟩
  | .r i :: hs, vs, ds, h, e => by
    obtain ⟨v, ws, rfl, hp, h⟩ := h
    unfold getAll at e
    obtain ⟨d', e1, e2⟩ := Option.bind_eq_some_iff.mp e
    obtain ⟨l, e3, rfl⟩ := Option.map_eq_some_iff.mp e2
    obtain ⟨rs, h1, h2, h3⟩ := args_of r h e3
    obtain ⟨a, s, e4, e5, e6, m, o⟩ := r.owned (show getO Γ i = some d' from e1)
    rw [hp] at e6
    cases e6
    refine ⟨a :: rs, ⟨rfl, o, h1⟩, ⟨⟨s, e4, e5⟩, hp, h2⟩, fun b mb => ?_⟩
    rcases List.mem_cons.mp mb with rfl | mb
    · exact m
    · exact h3 b mb
  | .t d :: hs, vs, ds, h, e => h.elim
theorem RefsAt.mem {Γ : Env} {σ : L2.St} : ∀ {is : List Nat} {rs : List Addr} {a : Addr}, RefsAt Γ σ is rs → a ∈ rs → ∃ i s, i ∈ is ∧ Γ[i]? = some s ∧ s.isOwn = true ∧ σ[i]? = some (some (.ref a))
  | [], [], a, h, m => by cases m
  | [], _ :: _, a, h, m => h.elim
  | _ :: _, [], a, h, m => h.elim
  | i :: is, b :: rs, a, h, m => by
    obtain ⟨⟨s, e1, e2⟩, e3, h⟩ := h
    rcases List.mem_cons.mp m with rfl | m
    · exact ⟨i, s, List.mem_cons_self, e1, e2, e3⟩
    · obtain ⟨j, t, m1, h1⟩ := RefsAt.mem h m
      exact ⟨j, t, List.mem_cons_of_mem _ m1, h1⟩
theorem RefsAt.nodup {K : KB} {Z : AS} {Γ : Env} {σ : L2.St} {H : Hp} {M : AS} (r : Rel K Z Γ σ H M) : ∀ {is : List Nat} {rs : List Addr}, RefsAt Γ σ is rs → is.Nodup → rs.Nodup
  | [], [], h, n => .nil
  | [], _ :: _, h, n => h.elim
  | _ :: _, [], h, n => h.elim
  | i :: is, b :: rs, h, n => by
    obtain ⟨⟨s, e1, e2⟩, e3, h⟩ := h
    obtain ⟨n1, n2⟩ := List.nodup_cons.mp n
    refine List.nodup_cons.mpr ⟨fun m => ?_, RefsAt.nodup r h n2⟩
    obtain ⟨j, t, m1, e4, e5, e6⟩ := RefsAt.mem h m
    exact r.inj i j s t b (fun z => n1 (by rw [z]; exact m1)) e1 e4 e2 e5 e3 e6
def RefOuts (Γ : Env) : List Nat → List D → Prop
  | [], [] => True
  | i :: is, o :: os => getO Γ i = some o ∧ RefOuts Γ is os
  | _, _ => False
theorem putC_at {Γ Γ' : Env} {i : Nat} {d : D} (h : putC Γ i d = some Γ') : Γ'.length = Γ.length ∧ (∀ j, j ≠ i → Γ'[j]? = Γ[j]?) ∧ getO Γ' i = some d := by
  unfold putC at h
  split at h
  · rename_i d' e
    cases h
    have hi := (List.getElem?_eq_some_iff.mp e).1
    refine ⟨List.length_set, fun j hj => List.getElem?_set_ne (Ne.symm hj), ?_⟩
    unfold getO
    rw [List.getElem?_set_self hi]
  · rename_i d' e
    cases h
    have hi := (List.getElem?_eq_some_iff.mp e).1
    refine ⟨List.length_set, fun j hj => List.getElem?_set_ne (Ne.symm hj), ?_⟩
    unfold getO
    rw [List.getElem?_set_self hi]
  · cases h
theorem getO_at {Γ Γ' : Env} {i : Nat} (h : Γ'[i]? = Γ[i]?) : getO Γ' i = getO Γ i := by
  unfold getO
  rw [h]
theorem putBack_at {K : KB} {A : AS} {σ : L2.St} {H : Hp} : ∀ {hs : List Ah} {vs : List V} {os : List D} {Γ Γ' : Env}, AVs K A σ H hs vs → putBack hs os Γ = some Γ' → (refsOf hs).Nodup →
    Γ'.length = Γ.length ∧ (∀ j, j ∉ refsOf hs → Γ'[j]? = Γ[j]?) ∧ RefOuts Γ' (refsOf hs) os
  | [], vs, [], Γ, Γ', h, e, n => by
    cases e
    exact ⟨rfl, fun _ _ => rfl, trivial⟩
  | [], vs, _ :: _, Γ, Γ', h, e, n => by cases e
  | .v d :: hs, vs, os, Γ, Γ', h, e, n => by
    obtain ⟨v, ws, rfl, hp, h⟩ := h
    unfold putBack at e
    exact putBack_at (hs := hs) h e n
  | .r i :: hs, vs, [], Γ, Γ', h, e, n => by
    unfold putBack at e
    cases e
  | .r i :: hs, vs, o :: os, Γ, Γ', h, e, n => by
    obtain ⟨v, ws, rfl, hp, h⟩ := h
    unfold putBack at e
    obtain ⟨Γ1, e1, e2⟩ := Option.bind_eq_some_iff.mp e
    obtain ⟨n1, n2⟩ := List.nodup_cons.mp (show (i :: refsOf hs).Nodup from n)
    obtain ⟨p1, p2, p3⟩ := putBack_at (hs := hs) h e2 n2
    obtain ⟨q1, q2, q3⟩ := putC_at e1
    refine ⟨p1.trans q1, fun j hj => ?_, ?_, p3⟩
    · obtain ⟨h1, h2⟩ := not_or.mp (fun z => hj (List.mem_cons.mpr z))
      rw [p2 j h2, q2 j h1]
    · rw [getO_at (p2 i n1), q3]
  | .t d :: hs, vs, os, Γ, Γ', h, e, n => h.elim
/-- what stands in the lent slots behind the call -/
theorem back_at {K : KB} {A : AS} {H : Hp} {Γ Γ' : Env} {σ : L2.St} : ∀ {is : List Nat} {rs : List Addr} {os : List D} {i : Nat}, RefsAt Γ σ is rs → RefOuts Γ' is os → OutsOk K H A os rs → i ∈ is →
    ∃ a d, a ∈ rs ∧ σ[i]? = some (some (.ref a)) ∧ getO Γ' i = some d ∧ Own K H A a d ∧ ∃ s, Γ[i]? = some s ∧ s.isOwn = true
  | [], rs, os, i, h1, h2, h3, m => by cases m
  | _ :: _, [], os, i, h1, h2, h3, m => h1.elim
  | _ :: _, _ :: _, [], i, h1, h2, h3, m => h2.elim
  | j :: is, b :: rs, o :: os, i, h1, h2, h3, m => by
    obtain ⟨⟨s, e1, e2⟩, e3, h1⟩ := h1
    rcases List.mem_cons.mp m with rfl | m
    · exact ⟨b, o, List.mem_cons_self, e3, h2.1, h3.1, s, e1, e2⟩
    · obtain ⟨a, d, m1, h4⟩ := back_at h1 h2.2 h3.2 m
      exact ⟨a, d, List.mem_cons_of_mem _ m1, h4⟩
theorem ArgsOk.mono {K : KB} {H : Hp} {A B : AS} (k : ∀ a, ¬ A a → ¬ B a) : ∀ {ms : List Bool} {ds : List D} {vs : List V} {rs : List Addr}, ArgsOk K H A ms ds vs rs → ArgsOk K H B ms ds vs rs
  | [], ds, vs, rs, h => by
    cases ds <;> cases vs <;> cases rs <;> first | trivial | exact h.elim
  | false :: ms, [], vs, rs, h => h.elim
  | false :: ms, d :: ds, [], rs, h => h.elim
  | false :: ms, d :: ds, v :: vs, rs, h => ⟨Rp.mono (fun a o e n => ⟨e, k a n⟩) _ _ h.1, ArgsOk.mono k h.2⟩
  | true :: ms, [], vs, rs, h => h.elim
  | true :: ms, d :: ds, [], rs, h => h.elim
  | true :: ms, d :: ds, v :: vs, [], h => h.elim
  | true :: ms, d :: ds, v :: vs, a :: rs, h => ⟨h.1, h.2.1.mono rfl (fun a o e n => ⟨e, k a n⟩), ArgsOk.mono k h.2.2⟩
theorem getO_some {Γ : Env} {i : Nat} {d : D} (h : getO Γ i = some d) : Γ[i]? = some (.ow d) ∨ Γ[i]? = some (.bo d) := by
  unfold getO at h
  split at h
  · rename_i e; cases h; exact .inl e
  · rename_i e; cases h; exact .inr e
  · cases h
theorem no_refs : ∀ {hs : List Ah} {K : KB} {A : AS} {σ : L2.St} {H : Hp} {vs : List V} {Γ : Env}, AVs K A σ H hs vs → (refsOf hs).isEmpty = true → putBack hs [] Γ = some Γ
  | [], _, _, _, _, _, _, _, _ => rfl
  | .v d :: hs, K, A, σ, H, vs, Γ, h, e => by
    obtain ⟨v, ws, rfl, hp, h⟩ := h
    exact no_refs (hs := hs) h e
  | .r i :: hs, K, A, σ, H, vs, Γ, h, e => by cases e
  | .t d :: hs, K, A, σ, H, vs, Γ, h, e => h.elim
/-- the caller's frame behind the call -/
theorem after_call {K : KB} {Z : AS} {Γ1 Γ2 : Env} {σ : L2.St} {H1 H' : Hp} {M1 M' : AS} {hs : List Ah} {vs : List V} {rs : List Addr} {os : List D} (r1 : Rel K Z Γ1 σ H1 M1) (av : AVs K (un M1 Z) σ H1 hs vs) (hr : RefsAt Γ1 σ (refsOf hs) rs) (hM : ∀ a, onT K rs a → M1 a) (hnd : (refsOf hs).Nodup)
    (e6 : putBack hs os Γ1 = some Γ2) (p : Post K (fun a => Z a ∨ (M1 a ∧ ¬ onT K rs a)) rs H1 H' M') (ho : OutsOk K H' (un M' (fun a => Z a ∨ (M1 a ∧ ¬ onT K rs a))) os rs) :
    Rel K Z Γ2 σ H' (fun a => M' a ∨ (M1 a ∧ ¬ onT K rs a)) ∧ Fr H1 M1 H' (fun a => M' a ∨ (M1 a ∧ ¬ onT K rs a)) ∧ ∀ p, M' p → p ∉ rs → Apart Γ2 σ p := by
  obtain ⟨f', m1, tb', m2, m3, m4⟩ := p
  have sub : ∀ a, ¬ un M' (fun a => Z a ∨ (M1 a ∧ ¬ onT K rs a)) a → ¬ un (fun a => M' a ∨ (M1 a ∧ ¬ onT K rs a)) Z a := fun a n u => n (by
    rcases u with (u | u) | u
    · exact .inl u
    · exact .inr (.inr u)
    · exact .inr (.inl u))
  have km : ∀ a o, H' a = some o → ¬ un M' (fun a => Z a ∨ (M1 a ∧ ¬ onT K rs a)) a → H' a = some o ∧ ¬ un (fun a => M' a ∨ (M1 a ∧ ¬ onT K rs a)) Z a := fun a o e n => ⟨e, sub a n⟩
  have kk : ∀ a o, H1 a = some o → ¬ un M1 Z a → H' a = some o ∧ ¬ un (fun a => M' a ∨ (M1 a ∧ ¬ onT K rs a)) Z a := fun a o e n => by
    have nr : ¬ onT K rs a := fun m => n (.inl (hM a m))
    refine ⟨f'.kp a o e nr, fun u => ?_⟩
    rcases u with (u | u) | u
    · rcases f'.nw a u with h | h
      · exact nr h
      · rw [e] at h; cases h
    · exact n (.inl u.1)
    · exact n (.inr u)
  obtain ⟨p1, p2, p3⟩ := putBack_at av e6 hnd
  have ownB : ∀ {i : Nat} {s : Sl}, Γ2[i]? = some s → s.isOwn = true → ∃ s', Γ1[i]? = some s' ∧ s'.isOwn = true := fun {i s} e so => by
    by_cases hi : i ∈ refsOf hs
    · obtain ⟨a, d', _, _, _, _, h⟩ := back_at hr p3 ho hi
      exact h
    · rw [p2 i hi] at e
      exact ⟨s, e, so⟩
  have mOld : ∀ {i : Nat} {s : Sl} {a : Addr}, Γ1[i]? = some s → s.isOwn = true → σ[i]? = some (some (.ref a)) → M1 a ∧ ∃ d, Own K H1 (un M1 Z) a d := fun {i s a} e so ea => by
    have z := r1.sl i s e
    cases s with
    | no => cases so
    | sh d => cases so
    | ow d => obtain ⟨b, e1, m, o⟩ := z; rw [ea] at e1; cases e1; exact ⟨m, d, o⟩
    | bo d => obtain ⟨b, e1, m, o⟩ := z; rw [ea] at e1; cases e1; exact ⟨m, d, o⟩
  have outR : ∀ {i : Nat} {s : Sl} {a : Addr}, i ∉ refsOf hs → Γ1[i]? = some s → s.isOwn = true → σ[i]? = some (some (.ref a)) → ¬ onT K rs a := fun {i s a} hi e so ea m => by
    rcases m with m | ⟨p, hp, rfl⟩
    · obtain ⟨j, t, m1, e1, so2, ea2⟩ := RefsAt.mem hr m
      exact r1.inj i j s t a (fun z => hi (by rw [z]; exact m1)) e e1 so so2 ea ea2
    · obtain ⟨_, d, o⟩ := mOld e so ea
      obtain ⟨ps, e2, _⟩ := (r1.tb p hp).2
      exact o.noTab ps e2
  have ncAll : ∀ a, un (fun a => M' a ∨ (M1 a ∧ ¬ onT K rs a)) Z a → ∀ (_ : Addr) (q : Heap → Prop), H' a ≠ some (.ext q) := fun a z c q => by
    have old : un M1 Z a → ¬ onT K rs a → H' a ≠ some (.ext q) := fun u n => by
      have hne : H1 a ≠ none := u.elim (r1.md a) (r1.zd a)
      obtain ⟨o, ho⟩ := Option.ne_none_iff_exists'.mp hne
      rw [f'.kp a o ho n, ← ho]
      exact r1.nc a u c q
    rcases z with (z | z) | z
    · exact m4 a z c q
    · exact old (.inl z.1) z.2
    · exact old (.inr z) fun m => r1.zm a z (hM a m)
  refine ⟨⟨p1.trans r1.len, fun i s e => ?_, fun i j s t a hij ei ej si sj q => ?_, fun a z => ?_, fun a z => f'.dm a (r1.zd a z), fun a m => ?_, fun p hp => ⟨.inl (tb' p hp).1, (tb' p hp).2⟩, fun a z x q => ncAll a z x q⟩, ⟨fun a o e n => f'.kp a o e fun m => n (hM a m), fun a m => ?_, f'.dm⟩, fun p mp np i s e so z => ?_⟩
  · by_cases hi : i ∈ refsOf hs
    · obtain ⟨a, d', m, ea, eo, own, _⟩ := back_at hr p3 ho hi
      have own' := own.mono rfl km
      rcases getO_some eo with z | z
      · rw [e] at z; cases z
        exact ⟨a, ea, .inl (m1 a m), own'⟩
      · rw [e] at z; cases z
        exact ⟨a, ea, .inl (m1 a m), own'⟩
    · rw [p2 i hi] at e
      have z := r1.sl i s e
      cases s with
      | no => trivial
      | sh d => obtain ⟨v, e1, hp⟩ := z; exact ⟨v, e1, hp.mono kk _ _⟩
      | ow d =>
        obtain ⟨b, e1, m, o⟩ := z
        have nr := outR hi e rfl e1
        obtain ⟨o2, ho2⟩ := Option.ne_none_iff_exists'.mp (r1.md b m)
        exact ⟨b, e1, .inr ⟨m, nr⟩, o.mono (by rw [ho2]; exact f'.kp b o2 ho2 nr) kk⟩
      | bo d =>
        obtain ⟨b, e1, m, o⟩ := z
        have nr := outR hi e rfl e1
        obtain ⟨o2, ho2⟩ := Option.ne_none_iff_exists'.mp (r1.md b m)
        exact ⟨b, e1, .inr ⟨m, nr⟩, o.mono (by rw [ho2]; exact f'.kp b o2 ho2 nr) kk⟩
  · obtain ⟨s', es, ss⟩ := ownB ei si
    obtain ⟨t', et, st⟩ := ownB ej sj
    exact r1.inj i j s' t' a hij es et ss st q
  · intro m
    rcases m with m | m
    · exact m2 a (.inl z) m
    · exact r1.zm a z m.1
  · rcases m with m | m
    · exact m3 a m
    · exact f'.dm a (r1.md a m.1)
  · rcases m with m | m
    · rcases f'.nw a m with h | h
      · exact .inl (hM a h)
      · exact .inr h
    · exact .inl m.1
  · obtain ⟨s', es, ss⟩ := ownB e so
    by_cases hi : i ∈ refsOf hs
    · obtain ⟨a, d', m, ea, _⟩ := back_at hr p3 ho hi
      rw [ea] at z
      cases z
      exact np m
    · exact m2 p (.inr ⟨(mOld es ss z).1, outR hi es ss z⟩) mp
/-- the promise's setting at a call -/
theorem at_call {K : KB} {Z : AS} {Γ1 : Env} {σ : L2.St} {H1 : Hp} {M1 : AS} {hs : List Ah} {vs : List V} {ds : List D} {ms : List Bool} (r1 : Rel K Z Γ1 σ H1 M1) (av : AVs K (un M1 Z) σ H1 hs vs) (e2 : getAll Γ1 hs = some ds) (hnd : (refsOf hs).Nodup) (hm : hs.map Ah.isR = ms) :
    ∃ rs, RefsAt Γ1 σ (refsOf hs) rs ∧ (∀ a, onT K rs a → M1 a) ∧ ArgsOk K H1 (un (onT K rs) (fun a => Z a ∨ (M1 a ∧ ¬ onT K rs a))) ms ds vs rs ∧ rs.Nodup ∧ (∀ a, (Z a ∨ (M1 a ∧ ¬ onT K rs a)) → ¬ onT K rs a) ∧ (∀ a, (Z a ∨ (M1 a ∧ ¬ onT K rs a)) → H1 a ≠ none) ∧ (∀ a, (Z a ∨ (M1 a ∧ ¬ onT K rs a)) → ∀ (_ : Addr) (q : Heap → Prop), H1 a ≠ some (.ext q)) := by
  obtain ⟨rs, ha, hr, hM⟩ := args_of r1 av e2
  have hT : ∀ a, onT K rs a → M1 a := fun a m => by
    rcases m with m | ⟨p, hp, rfl⟩
    · exact hM a m
    · exact (r1.tb p hp).1
  rw [hm] at ha
  refine ⟨rs, hr, hT, ha.mono fun a n u => n ?_, RefsAt.nodup r1 hr hnd, fun a z => ?_, fun a z => ?_, fun a z => r1.nc a (z.elim .inr fun z => .inl z.1)⟩
  · rcases u with u | u | u
    · exact .inl (hT a u)
    · exact .inr u
    · exact .inl u.1
  · rcases z with z | z
    · exact fun m => r1.zm a z (hT a m)
    · exact z.2
  · rcases z with z | z
    · exact r1.zd a z
    · exact r1.md a z.1
/-- an answer, in the caller's frame -/
theorem val_back {K : KB} {Z : AS} {Γ2 : Env} {σ : L2.St} {H' : Hp} {M1 M' : AS} {rs : List Addr} {d : D} {fr : Bool} {v : V} (ap : ∀ p, M' p → p ∉ rs → Apart Γ2 σ p)
    (hv : if fr = true then ∃ p, v = .ref p ∧ M' p ∧ Own K H' (un M' (fun a => Z a ∨ (M1 a ∧ ¬ onT K rs a))) p d ∧ p ∉ rs else Rp K H' (un M' (fun a => Z a ∨ (M1 a ∧ ¬ onT K rs a))) d v) : RVal K Z Γ2 σ H' (fun a => M' a ∨ (M1 a ∧ ¬ onT K rs a)) d fr v := by
  have km : ∀ a o, H' a = some o → ¬ un M' (fun a => Z a ∨ (M1 a ∧ ¬ onT K rs a)) a → H' a = some o ∧ ¬ un (fun a => M' a ∨ (M1 a ∧ ¬ onT K rs a)) Z a := fun a o e n => ⟨e, fun u => n (by
    rcases u with (u | u) | u
    · exact .inl u
    · exact .inr (.inr u)
    · exact .inr (.inl u))⟩
  unfold RVal
  split at hv
  · rename_i hfr
    rw [if_pos hfr]
    obtain ⟨p, rfl, mp, op, np⟩ := hv
    exact ⟨p, rfl, .inl mp, op.mono rfl km, ap p mp np⟩
  · rename_i hfr
    rw [if_neg hfr]
    exact hv.mono km _ _
theorem exc_back {K : KB} {Z : AS} {H' : Hp} {M1 M' : AS} {rs : List Addr} {d : D} {dx : Addr} (h : ExAt K H' (un M' (fun a => Z a ∨ (M1 a ∧ ¬ onT K rs a))) d dx) : ExAt K H' (un (fun a => M' a ∨ (M1 a ∧ ¬ onT K rs a)) Z) d dx := by
  have km : ∀ a o, H' a = some o → ¬ un M' (fun a => Z a ∨ (M1 a ∧ ¬ onT K rs a)) a → H' a = some o ∧ ¬ un (fun a => M' a ∨ (M1 a ∧ ¬ onT K rs a)) Z a := fun a o e n => ⟨e, fun u => n (by
    rcases u with (u | u) | u
    · exact .inl u
    · exact .inr (.inr u)
    · exact .inr (.inl u))⟩
  obtain ⟨w, n, e, hp⟩ := h
  exact ⟨w, (km _ _ e n).2, e, hp.mono km _ _⟩
/-- the call, from the caller's frame -/
theorem call_to {j : Nat} {ms : List Bool} {as : As} {E : XK} (hm : modesAs as = ms) : ∀ σ H Q, tE (kb X C) (evE cf (.cal j as)) σ H Q → tA (kb X C) (evAs cf as) σ H fun vs H1 => spD (kb X C) (cf j) ms vs H1 Q E := by
  rintro σ H Q ⟨Z, M, Γ, r, w, Γe, e, q⟩
  unfold evE at e
  obtain ⟨hs, Γ1, e1, e⟩ := Res.bind_ok e
  refine ⟨Z, M, Γ, r, hs, Γ1, e1, fun vs H1 M1 r1 f1 av => ?_⟩
  cases e2 : getAll Γ1 hs with
  | none => rw [e2] at e; cases e
  | some ds =>
    rw [e2] at e
    dsimp only at e
    split at e
    rotate_left
    · cases e
    rename_i hnd
    split at e
    rotate_left
    · cases e
    rename_i d fr os e3
    obtain ⟨Γ2, Γ3, e4, e5⟩ := Res.bind_ok e
    obtain ⟨e6, e7⟩ := liftO_ok e4
    have e8 : (d, fr) = w ∧ Γ2 = Γe := by cases e5; exact ⟨rfl, rfl⟩
    clear e4 e5 e7 e
    obtain ⟨e9, e10⟩ := e8
    rw [← e9, ← e10] at q
    dsimp only at q
    obtain ⟨rs, hr, hT, ha, nd, z1, z2, z3⟩ := at_call r1 av e2 hnd ((evAs_modes e1).trans hm)
    refine ⟨_, ds, rs, _, e3, ha, nd, z1, z2, fun p hp => (r1.tb p hp).2, z3, fun v H' M' p ho hv => ?_⟩
    obtain ⟨r2, f2, ap⟩ := after_call r1 av hr hT hnd e6 p ho
    exact q v H' _ r2 (f1.trans f2) (val_back ap hv)
/-- a call that may raise -/
def tX (K : KB) (W : WX) (f : Env → XRes) : TE := fun σ H Q => ∃ Z M Γ, Rel K Z Γ σ H M ∧ (match f Γ with
  | .ok r Γ' => ∀ v H' M', Rel K Z Γ' σ H' M' → Fr H M H' M' → RVal K Z Γ' σ H' M' r.1 r.2 v → Q v H'
  | .ex c d Γ' => ∀ H' M' dx, Rel K Z Γ' σ H' M' → Fr H M H' M' → ExAt K H' (un M' Z) d dx → W (.ref (He.ga K.k c)) (some dx) σ H'
  | .no => False)
theorem xcall_to {j : Nat} {ms : List Bool} {as : As} (hm : modesAs as = ms) : ∀ σ H Q, tX (kb X C) W (evX cf (.cal j as)) σ H Q → tA (kb X C) (evAs cf as) σ H fun vs H1 => spD (kb X C) (cf j) ms vs H1 Q fun cls d H' => W cls d σ H' := by
  rintro σ H Q ⟨Z, M, Γ, r, q⟩
  unfold evX at q
  dsimp only at q
  cases e1 : evAs cf as Γ with
  | no => rw [e1] at q; exact q.elim
  | ok hs Γ1 =>
    rw [e1] at q
    dsimp only at q
    refine ⟨Z, M, Γ, r, hs, Γ1, e1, fun vs H1 M1 r1 f1 av => ?_⟩
    cases e2 : getAll Γ1 hs with
    | none => rw [e2] at q; exact q.elim
    | some ds =>
      rw [e2] at q
      dsimp only at q
      by_cases hnd : (refsOf hs).Nodup
      rotate_left
      · rw [if_neg hnd] at q; exact q.elim
      rw [if_pos hnd] at q
      obtain ⟨rs, hr, hT, ha, nd, z1, z2, z3⟩ := at_call r1 av e2 hnd ((evAs_modes e1).trans hm)
      cases e3 : cf j ds with
      | none => rw [e3] at q; exact q.elim
      | some oc =>
        rw [e3] at q
        cases oc with
        | ok d fr os =>
          dsimp only at q
          cases e6 : putBack hs os Γ1 with
          | none => rw [e6] at q; exact q.elim
          | some Γ2 =>
            rw [e6] at q
            dsimp only at q
            refine ⟨_, ds, rs, _, e3, ha, nd, z1, z2, fun p hp => (r1.tb p hp).2, z3, fun v H' M' p ho hv => ?_⟩
            obtain ⟨r2, f2, ap⟩ := after_call r1 av hr hT hnd e6 p ho
            exact q v H' _ r2 (f1.trans f2) (val_back ap hv)
        | ex c d =>
          dsimp only at q
          cases e5 : (refsOf hs).isEmpty with
          | false => rw [e5, if_neg Bool.false_ne_true] at q; exact q.elim
          | true =>
            rw [e5, if_pos rfl] at q
            have rnil : rs = [] := by
              have h0 : refsOf hs = [] := List.isEmpty_iff.mp e5
              rw [h0] at hr
              cases rs with
              | nil => rfl
              | cons a rs => exact hr.elim
            refine ⟨_, ds, rs, _, e3, ha, nd, z1, z2, fun p hp => (r1.tb p hp).2, z3, fun H' M' dx p hx => ?_⟩
            obtain ⟨r2, f2, ap⟩ := after_call r1 av hr hT hnd (no_refs av e5) p (by rw [rnil]; trivial)
            exact q H' _ dx r2 (f1.trans f2) (exc_back hx)
variable {k : Nat} {f : Addr} {fd : FuncData} {ps : List Str} {x : Str} {p pos : Pos} {j : Nat} {ms : List Bool} {as : As}
/-- f(e, ..) -/
theorem e_cal (G : Gd X) (hr : Room k X.A) (F : FnG X.prog X.w X.K X.mg X.base k f fd ps (spD (kb X C) (cf j) ms)) (hm : X.mg x = some (.ref f)) (hk : PySem.W.keepIn X.K (.ref f) = true) (hb : Binds X.K fd ps [])
    (ha : PA X (a :: es) (tA (kb X C) (evAs cf as))) (hmo : modesAs as = ms := by rfl) (hg : Gl X x := by rfl) (hs : noStar a = true := by rfl) (hpl : (backTo pos (starEach es X.env)).any (·.1) = false := by rfl) (hdb : (x == ("__debug__" : Str)) = false := by decide) :
    PE X (.Call (.Name x p) (a :: es) [] pos) (tE (kb X C) (evE cf (.cal j as))) := by
  refine ⟨fun pins s σ H Q I h => ?_⟩
  refine wpAny_Call_Name_kw (ld_glob I hg hm ?_ hdb)
  refine PySem.W.callWith_K (h₀ := X.base) I.ok.mod.kin hk (thn (ha.run pos pins s σ H _ I (call_to (E := E0) hmo σ H Q h)) fun us s1 ⟨vs, H1, I1, r, q⟩ => ⟨I1.kIn, ?_⟩) (star1 hs) hpl
  exact run_g G F hr hb no_cx I1 r q
/-- f() -/
theorem e_cal0 (G : Gd X) (hr : Room k X.A) (F : FnG X.prog X.w X.K X.mg X.base k f fd ps (spD (kb X C) (cf j) [])) (hm : X.mg x = some (.ref f)) (hk : PySem.W.keepIn X.K (.ref f) = true) (hb : Binds X.K fd ps [])
    (hg : Gl X x := by rfl) (hdb : (x == ("__debug__" : Str)) = false := by decide) :
    PE X (.Call (.Name x p) [] [] pos) (tE (kb X C) (evE cf (.cal j .nil))) := by
  refine ⟨fun pins s σ H Q I h => ?_⟩
  refine wpAny_Call_Name_kw (ld_glob I hg hm ?_ hdb)
  refine PySem.W.callWith_K0 I.kIn hk ?_
  have q := call_to (ms := []) (E := E0) rfl σ H Q h
  obtain ⟨Z, M, Γ, r, hs, Γ', e, q⟩ := q
  cases e
  exact run_g (us := []) G F hr hb no_cx I .nil (q [] H M r Fr.refl rfl)
/-- f(e, ..), which may raise -/
theorem x_cal (G : Gd X) (tk : Takes X W) (hr : Room k X.A) (F : FnG X.prog X.w X.K X.mg X.base k f fd ps (spD (kb X C) (cf j) ms)) (hm : X.mg x = some (.ref f)) (hk : PySem.W.keepIn X.K (.ref f) = true) (hb : Binds X.K fd ps [])
    (ha : PA X (a :: es) (tA (kb X C) (evAs cf as))) (hmo : modesAs as = ms := by rfl) (hg : Gl X x := by rfl) (hs : noStar a = true := by rfl) (hpl : (backTo pos (starEach es X.env)).any (·.1) = false := by rfl) (hdb : (x == ("__debug__" : Str)) = false := by decide) :
    PE X (.Call (.Name x p) (a :: es) [] pos) (tX (kb X C) W (evX cf (.cal j as))) := by
  refine ⟨fun pins s σ H Q I h => ?_⟩
  refine wpAny_Call_Name_kw (ld_glob I hg hm ?_ hdb)
  refine PySem.W.callWith_K (h₀ := X.base) I.ok.mod.kin hk (thn (ha.run pos pins s σ H _ I (xcall_to hmo σ H Q h)) fun us s1 ⟨vs, H1, I1, r, q⟩ => ⟨I1.kIn, ?_⟩) (star1 hs) hpl
  exact run_g G F hr hb (wx_cx tk I1) I1 r q
end
end Dn
end

section
set_option linter.all false
set_option autoImplicit false
set_option maxRecDepth 10000
/-! DnM: a def keeps its promise. -/
namespace Dn
open PySem PySem.Spec PyProof.Rows L2

/-- a def's frame, at its entry -/
abbrev cxG (P : Program) (w : World) (K : PySem.W.Frag) (mg : Str → Option Value) (base : Heap) (N : List Str) (qual : Str) (scope : Scope) (f : Addr) (cd : Value) (A : Around) (outer : List PySem.Env) (s : Shared) (H : Hp) (E : XK) : Cx :=
  cxOf (L2.CX P w) P w K mg base N qual scope f cd A outer s H E
abbrev wE (E : XK) : WX := fun cls d _ H => E cls d H
section
variable {P : Program} {w : World} {K : PySem.W.Frag} {mg : Str → Option Value} {base : Heap} {k : Nat} {f : Addr} {fd : FuncData} {name qual : Str} {params : Arguments} {body : List Stmt} {scope : Scope} {N ps : List Str} {sp : Sp}
/-- a def of the text, by its body's walk -/
theorem fn_g (F : FunD K name qual params body scope [] [] f fd) (S : FnScope N ps scope) (len : ∀ vs H Q E, sp vs H Q E → vs.length = ps.length)
    (hbody : ∀ (cd : Value), fd.code = cd → ∀ (A : Around) (outer : List PySem.Env) (s : Shared) (H : Hp) (E : XK), Gd (cxG P w K mg base N qual scope f cd A outer s H E) → Takes (cxG P w K mg base N qual scope f cd A outer s H E) (wE E) → Room k (cxG P w K mg base N qual scope f cd A outer s H E).A →
      ∀ (vs : List V) (Q : VK), sp vs H Q E → ∃ t, PSs (cxG P w K mg base N qual scope f cd A outer s H E) body t ∧ t { nx := fun _ H' => Q .non H', rt := Q } (L2.start N vs) H) : FnG P w K mg base (k + 1) f fd ps sp := by
  obtain ⟨oc, od, dV, kV, doc, pm, an, cdv, ct, osl, rfl, lk, hcd, _, _⟩ := F.ex
  refine ⟨len, fun A outer s H args us vs Q E hgd hr e0 hb r hsp => ?_⟩
  have ins : K.In s.heap := e0.mod.kin.keeps fun b o e => (e0.bs b o e).1
  have nol : s.heap.NoLimit := e0.mod.nolimit.keeps fun b o e => (e0.bs b o e).1
  have kinds : ∀ y ∈ ps.zip us, scope.names.lookup y.1 = some .local ∨ (scope.names.lookup y.1 = some .cell ∧ ((cellsFrom (s.heap.objs.size + 1) scope.names []).lookup y.1).isSome = true) := by
    rintro ⟨n, v⟩ hy
    rcases S.par n (List.of_mem_zip hy).1 with h | h
    · exact .inl h
    · exact .inr ⟨h, PySem.W.cellsFrom_some _ _ _ (.inl h)⟩
  have code := PySem.W.codeRec_of ins hcd
  refine codeAny_call_function hr.depth (ins _ _ lk) rfl S.co S.gen rfl code ?_
  refine hb _ _ _ _ ?_
  refine wpAny_newFunctionEnv_cells S.kind kinds ?_
  intro env he s1 x
  subst he
  have rm := hr.deeper (envOfC qual scope s.heap.objs.size f cdv)
  have G : Gd (cxG P w K mg base N qual scope f cdv A outer s H E) := ⟨rfl, rm.units, hgd, S.nd, passes_of rfl⟩
  obtain ⟨t, ht, hq⟩ := hbody cdv rfl A outer s H E G (takes_of rfl rfl rfl rfl) rm vs Q hsp
  have I := inv_start (CX := L2.CX P w) (N := N) (cd := cdv) (f := f) (qual := qual) (E := E) S hr.hd e0 (len _ _ _ _ hsp) r x
  refine ⟨nol.keeps x.toInCall.keep, codeAny_func ?_⟩
  refine wpAny_mono (ht.run [] s1 (L2.start N vs) H _ I hq) ?_ ?_
  · intro fl s' hs
    cases fl with
    | ret u =>
      obtain ⟨v, σ', H', J, rv, q⟩ := hs
      exact .inl ⟨u, rfl, v, H', J.os, J.bare, J.base, J.hok, rv, q⟩
    | next =>
      obtain ⟨σ', H', J, q⟩ := hs
      exact .inl ⟨.none, rfl, .non, H', J.os, J.bare, J.base, J.hok, rfl, q⟩
    | brk => obtain ⟨_, _, _, q⟩ := hs; exact q.elim
    | cont => obtain ⟨_, _, _, q⟩ := hs; exact q.elim
  · intro e s' hs
    exact wpAny_mono hs (fun _ s'' h => .inr ⟨e, rfl, h⟩) fun e' s'' h => .inr ⟨e', rfl, h⟩
end
/-! ### the slots at the entry -/
theorem inSl_len : ∀ {ms : List Bool} {ds : List D} {Γ : Env}, inSl ms ds = some Γ → Γ.length = ms.length
  | [], [], Γ, h => by cases h; rfl
  | [], _ :: _, Γ, h => by cases h
  | _ :: _, [], Γ, h => by cases h
  | m :: ms, d :: ds, Γ, h => by
    unfold inSl at h
    obtain ⟨r, e, rfl⟩ := Option.map_eq_some_iff.mp h
    exact congrArg Nat.succ (inSl_len e)
section
variable {K : KB} {H : Hp} {Z M : AS}
theorem inSl_at : ∀ {ms : List Bool} {ds : List D} {vs : List V} {rs : List Addr} {Γ : Env}, inSl ms ds = some Γ → ArgsOk K H (un M Z) ms ds vs rs → (∀ a ∈ rs, M a) → rs.Nodup →
    (∀ (i : Nat) (s : Sl), Γ[i]? = some s → SlOk K H Z M s ((vs.map some)[i]?)) ∧
    (∀ (i : Nat) (s : Sl) (a : Addr), Γ[i]? = some s → s.isOwn = true → vs[i]? = some (.ref a) → a ∈ rs) ∧
    (∀ (i j : Nat) (s t : Sl) (a : Addr), i ≠ j → Γ[i]? = some s → Γ[j]? = some t → s.isOwn = true → t.isOwn = true → vs[i]? = some (.ref a) → vs[j]? ≠ some (.ref a))
  | [], ds, vs, rs, Γ, h, ha, hm, nd => by
    cases ds <;> cases vs <;> cases rs <;> first
      | (cases h; exact ⟨fun i s e => by simp at e, fun i s a e => by simp at e, fun i j s t a _ e => by simp at e⟩)
      | exact ha.elim
  | false :: ms, [], vs, rs, Γ, h, ha, hm, nd => ha.elim
  | false :: ms, d :: ds, [], rs, Γ, h, ha, hm, nd => ha.elim
  | false :: ms, d :: ds, v :: vs, rs, Γ, h, ha, hm, nd => by
    unfold inSl at h
    obtain ⟨r, e, rfl⟩ := Option.map_eq_some_iff.mp h
    obtain ⟨h1, h2, h3⟩ := inSl_at e ha.2 hm nd
    refine ⟨fun i s e => ?_, fun i s a e so ev => ?_, fun i j s t a hij ei ej si sj vi => ?_⟩
    · cases i with
      | zero => cases e; exact ⟨v, rfl, ha.1⟩
      | succ i => exact h1 i s e
    · cases i with
      | zero => cases e; cases so
      | succ i => exact h2 i s a e so ev
    · cases i with
      | zero => cases ei; cases si
      | succ i =>
        cases j with
        | zero => cases ej; cases sj
        | succ j => exact h3 i j s t a (fun z => hij (congrArg Nat.succ z)) ei ej si sj vi
  | true :: ms, [], vs, rs, Γ, h, ha, hm, nd => ha.elim
  | true :: ms, d :: ds, [], rs, Γ, h, ha, hm, nd => ha.elim
  | true :: ms, d :: ds, v :: vs, [], Γ, h, ha, hm, nd => ha.elim
  | true :: ms, d :: ds, v :: vs, b :: rs, Γ, h, ha, hm, nd => by
    unfold inSl at h
    obtain ⟨r, e, rfl⟩ := Option.map_eq_some_iff.mp h
    obtain ⟨rfl, own, ha⟩ := ha
    obtain ⟨n1, n2⟩ := List.nodup_cons.mp nd
    obtain ⟨h1, h2, h3⟩ := inSl_at e ha (fun a m => hm a (List.mem_cons_of_mem _ m)) n2
    refine ⟨fun i s e => ?_, fun i s a e so ev => ?_, fun i j s t a hij ei ej si sj vi => ?_⟩
    · cases i with
      | zero => cases e; exact ⟨b, rfl, hm b List.mem_cons_self, own⟩
      | succ i => exact h1 i s e
    · cases i with
      | zero => cases ev; exact List.mem_cons_self
      | succ i => exact List.mem_cons_of_mem _ (h2 i s a e so ev)
    · cases i with
      | zero =>
        cases vi
        cases j with
        | zero => exact absurd rfl hij
        | succ j => exact fun vj => n1 (h2 j t b ej sj vj)
      | succ i =>
        cases j with
        | zero => exact fun vj => by cases vj; exact n1 (h2 i s b ei si vi)
        | succ j => exact h3 i j s t a (fun z => hij (congrArg Nat.succ z)) ei ej si sj vi
theorem outs_at {H0 : Hp} {A0 : AS} {Γ : Env} {σ : L2.St} (r : Rel K Z Γ σ H M) : ∀ {ms : List Bool} {n : Nat} {ds : List D} {vs : List V} {rs : List Addr} {os : List D} {Γn : Env}, (∀ i, Γn[i]? = Γ[n + i]?) → outs ms Γn = some os → ArgsOk K H0 A0 ms ds vs rs →
    (∀ i ∈ refIx n ms, ∀ v, n ≤ i → vs[i - n]? = some v → σ[i]? = some (some v)) → OutsOk K H (un M Z) os rs ∧ ∀ a ∈ rs, M a
  | [], n, ds, vs, rs, os, Γn, hn, h, ha, hv => by
    cases ds <;> cases vs <;> cases rs <;> first
      | (unfold outs at h; cases h; exact ⟨trivial, fun a m => by cases m⟩)
      | exact ha.elim
  | false :: ms, n, [], vs, rs, os, Γn, hn, h, ha, hv => ha.elim
  | false :: ms, n, d :: ds, [], rs, os, Γn, hn, h, ha, hv => ha.elim
  | false :: ms, n, d :: ds, v :: vs, rs, os, Γn, hn, h, ha, hv => by
    cases Γn with
    | nil => unfold outs at h; cases h
    | cons s Γn =>
      unfold outs at h
      refine outs_at (n := n + 1) r (fun i => ?_) h ha.2 fun i hi v' le e => ?_
      · have := hn (i + 1)
        rw [show n + 1 + i = n + (i + 1) by omega, ← this]
        rfl
      · refine hv i hi v' (by omega) ?_
        rw [show i - n = (i - (n + 1)) + 1 by omega]
        exact e
  | true :: ms, n, [], vs, rs, os, Γn, hn, h, ha, hv => ha.elim
  | true :: ms, n, d :: ds, [], rs, os, Γn, hn, h, ha, hv => ha.elim
  | true :: ms, n, d :: ds, v :: vs, [], os, Γn, hn, h, ha, hv => ha.elim
  | true :: ms, n, d :: ds, v :: vs, b :: rs, os, Γn, hn, h, ha, hv => by
    cases Γn with
    | nil => unfold outs at h; cases h
    | cons s Γn =>
      cases s with
      | bo o =>
        unfold outs at h
        obtain ⟨os', e, rfl⟩ := Option.map_eq_some_iff.mp h
        obtain ⟨rfl, own, ha⟩ := ha
        have e0 : Γ[n]? = some (.bo o) := (hn 0).symm
        obtain ⟨a, e1, m, own'⟩ := r.sl n _ e0
        have e2 := hv n List.mem_cons_self (.ref b) (Nat.le_refl _) (by rw [Nat.sub_self]; rfl)
        rw [e1] at e2
        cases e2
        obtain ⟨h1, h2⟩ := outs_at (n := n + 1) r (fun i => by
          have := hn (i + 1)
          rw [show n + 1 + i = n + (i + 1) by omega, ← this]
          rfl) e ha fun i hi v' le e => by
            refine hv i (List.mem_cons_of_mem _ hi) v' (by omega) ?_
            rw [show i - n = (i - (n + 1)) + 1 by omega]
            exact e
        refine ⟨⟨own', h1⟩, fun a' m' => ?_⟩
        rcases List.mem_cons.mp m' with rfl | m'
        · exact m
        · exact h2 a' m'
      | no => unfold outs at h; cases h
      | sh d => unfold outs at h; cases h
      | ow d => unfold outs at h; cases h
end
theorem refIx_ge : ∀ {ms : List Bool} {n i : Nat}, i ∈ refIx n ms → n ≤ i ∧ i < n + ms.length
  | [], n, i, h => by cases h
  | true :: ms, n, i, h => by
    rcases List.mem_cons.mp h with rfl | h
    · exact ⟨Nat.le_refl _, by simp⟩
    · have := refIx_ge h
      simp only [List.length_cons]
      omega
  | false :: ms, n, i, h => by
    have := refIx_ge (show i ∈ refIx (n + 1) ms from h)
    simp only [List.length_cons]
    omega
/-! ### the frame's cells are another's -/
section
variable {k : PySem.W.Frag} {c c' : Cl} {H : Hp} {A : AS}
mutual
theorem Rp.cells (h : c.lams = c'.lams) : ∀ (d : D) (v : V), noY d = true → Rp ⟨k, c⟩ H A d v → Rp ⟨k, c'⟩ H A d v
  | .non, v, n, r => r
  | .bl b, v, n, r => r
  | .int i, v, n, r => r
  | .str x, v, n, r => r
  | .tup xs, v, n, ⟨a, vs, e, r, q⟩ => ⟨a, vs, e, r, Rps.cells h xs vs n q⟩
  | .lst xs, v, n, ⟨a, vs, e, na, r, q⟩ => ⟨a, vs, e, na, r, Rps.cells h xs vs n q⟩
  | .fz xs, v, n, ⟨a, o, vs, e, na, r, q⟩ => ⟨a, o, vs, e, na, r, Rps.cells h xs vs n q⟩
  | .dct ks xs, v, n, ⟨a, kvs, e, na, r, z, q⟩ => ⟨a, kvs, e, na, r, z, Rps.cells h xs _ n q⟩
  | .exc x d, v, n, ⟨a, dx, w, e, na, r, nd, z, q⟩ => ⟨a, dx, w, e, na, r, nd, z, Rp.cells h d w n q⟩
  | .yng j caps, v, n, _ => by cases n
  | .clo j cs, v, n, ⟨t, f, c2, pm, ctv, cl, ws, l, e, r, nc, q, m, nd, z, p⟩ => ⟨t, f, c2, pm, ctv, cl, ws, by rw [← h]; exact l, e, r, nc, q, m, nd, z, Rps.cells h cs ws n p⟩
theorem Rps.cells (h : c.lams = c'.lams) : ∀ (ds : List D) (vs : List V), noYs ds = true → Rps ⟨k, c⟩ H A ds vs → Rps ⟨k, c'⟩ H A ds vs
  | [], vs, n, r => r
  | d :: ds, vs, n, ⟨v, r, e, h1, h2⟩ => ⟨v, r, e, Rp.cells h d v (Bool.and_eq_true_iff.mp n).1 h1, Rps.cells h ds r (Bool.and_eq_true_iff.mp n).2 h2⟩
end
theorem Own.cells (h : c.lams = c'.lams) {a : Addr} : ∀ {d : D}, noY d = true → Own ⟨k, c⟩ H A a d → Own ⟨k, c'⟩ H A a d
  | .lst xs, n, ⟨vs, e, q⟩ => ⟨vs, e, Rps.cells h xs vs n q⟩
  | .dct ks xs, n, ⟨kvs, e, z, q⟩ => ⟨kvs, e, z, Rps.cells h xs _ n q⟩
theorem ArgsOk.cells (h : c.lams = c'.lams) : ∀ {ms : List Bool} {ds : List D} {vs : List V} {rs : List Addr}, noYs ds = true → ArgsOk ⟨k, c⟩ H A ms ds vs rs → ArgsOk ⟨k, c'⟩ H A ms ds vs rs
  | [], ds, vs, rs, n, r => by
    cases ds <;> cases vs <;> cases rs <;> first | trivial | exact r.elim
  | false :: ms, [], vs, rs, n, r => r.elim
  | false :: ms, d :: ds, [], rs, n, r => r.elim
  | false :: ms, d :: ds, v :: vs, rs, n, r => ⟨Rp.cells h _ _ (Bool.and_eq_true_iff.mp n).1 r.1, ArgsOk.cells h (Bool.and_eq_true_iff.mp n).2 r.2⟩
  | true :: ms, [], vs, rs, n, r => r.elim
  | true :: ms, d :: ds, [], rs, n, r => r.elim
  | true :: ms, d :: ds, v :: vs, [], n, r => r.elim
  | true :: ms, d :: ds, v :: vs, a :: rs, n, r => ⟨r.1, Own.cells h (Bool.and_eq_true_iff.mp n).1 r.2.1, ArgsOk.cells h (Bool.and_eq_true_iff.mp n).2 r.2.2⟩
theorem OutsOk.cells (h : c.lams = c'.lams) : ∀ {os : List D} {rs : List Addr}, noYs os = true → OutsOk ⟨k, c⟩ H A os rs → OutsOk ⟨k, c'⟩ H A os rs
  | [], [], n, r => trivial
  | [], _ :: _, n, r => r.elim
  | _ :: _, [], n, r => r.elim
  | d :: os, a :: rs, n, r => ⟨Own.cells h (Bool.and_eq_true_iff.mp n).1 r.1, OutsOk.cells h (Bool.and_eq_true_iff.mp n).2 r.2⟩
theorem Post.cells {Z : AS} {rs : List Addr} {H' : Hp} {M' : AS} (p : Post ⟨k, c⟩ Z rs H H' M') : Post ⟨k, c'⟩ Z rs H H' M' := ⟨p.fr, p.rs, p.tb, p.zm, p.md, p.nc⟩
theorem run_core {cf : CallF} {df : Df} {ds : List D} {oc : Oc} (h : runDf cf df ds = some oc) : runCore cf df ds = some oc ∧ (df.mkr = true → noYs ds = true ∧ ocNoY oc = true) := by
  unfold runDf at h
  split at h
  · rename_i hm
    split at h
    · rename_i hn
      split at h
      · rename_i o e
        split at h
        · rename_i ho
          cases h
          exact ⟨e, fun _ => ⟨hn, ho⟩⟩
        · cases h
      · cases h
    · cases h
  · rename_i hm
    exact ⟨h, fun z => absurd z hm⟩
theorem spD_cells {cf : CallF} {df : Df} {ms : List Bool} {vs : List V} {Q : VK} {E : XK} (hl : c.lams = c'.lams) (hm : df.mkr = true) (h : spD ⟨k, c⟩ (runDf cf df) ms vs H Q E) : spD ⟨k, c'⟩ (runDf cf df) ms vs H Q E := by
  obtain ⟨Z, ds, rs, oc, e, ha, nd, z1, z2, tb, z3, q⟩ := h
  obtain ⟨_, n⟩ := run_core e
  obtain ⟨n1, n2⟩ := n hm
  refine ⟨Z, ds, rs, oc, e, ha.cells hl n1, nd, z1, z2, tb, z3, ?_⟩
  cases oc with
  | ok d fr os =>
    have n2 := Bool.and_eq_true_iff.mp (show (noY d && noYs os) = true from n2)
    intro v H' M' p ho hv
    refine q v H' M' p.cells (ho.cells hl.symm n2.2) ?_
    split at hv
    · rename_i hfr
      rw [if_pos hfr]
      obtain ⟨a, e1, m, o, na⟩ := hv
      exact ⟨a, e1, m, o.cells hl.symm n2.1, na⟩
    · rename_i hfr
      rw [if_neg hfr]
      exact hv.cells hl.symm _ _ n2.1
  | ex x d =>
    intro H' M' dx p hx
    obtain ⟨w, n, e1, hp⟩ := hx
    exact q H' M' dx p.cells ⟨w, n, e1, hp.cells hl.symm _ _ n2⟩
end
section
variable {P : Program} {w : World} {K : KB} {mg : Str → Option Value} {base : Heap} {k : Nat} {f : Addr} {fd : FuncData} {name qual : Str} {params : Arguments} {body : List Stmt} {scope : Scope} {N ps : List Str} {cf : CallF} {df : Df}
/-- the body's walk at the arguments, by the data's run -/
theorem body_at {vs : List V} {H : Hp} {Q : VK} {E : XK} (hN : N.length = df.slots) (hp : ps.length = df.np) (hms : df.modes.length = df.np) (hle : df.np ≤ df.slots) (h : spD K (runDf cf df) df.modes vs H Q E) :
    tS K (wE E) (refIx 0 df.modes) (evSs cf df.body) { nx := fun _ H' => Q .non H', rt := Q } (start N vs) H := by
  obtain ⟨Z, ds, rs, oc, hrun, ha, nd, hz, hzd, htb, hnc, q⟩ := h
  have hrun := (run_core hrun).1
  unfold runCore at hrun
  cases e1 : inSl df.modes ds with
  | none => rw [e1] at hrun; cases hrun
  | some Γ0 =>
    rw [e1] at hrun
    dsimp only at hrun
    have l0 := inSl_len e1
    obtain ⟨l1, l2⟩ := ha.len
    have hvs : (vs.map some).length = Γ0.length := by rw [List.length_map, l2, l0]
    obtain ⟨s1, s2, s3⟩ := inSl_at e1 ha (fun a m => .inl m) nd
    have hsl : N.length - vs.length = df.slots - df.np := by rw [hN, l2, hms]
    have tail : ∀ {i : Nat} {s : Sl}, (Γ0 ++ List.replicate (df.slots - df.np) Sl.no)[i]? = some s → (i < Γ0.length ∧ Γ0[i]? = some s) ∨ (Γ0.length ≤ i ∧ s = .no) := fun {i s} e => by
      by_cases hi : i < Γ0.length
      · rw [List.getElem?_append_left hi] at e
        exact .inl ⟨hi, e⟩
      · rw [List.getElem?_append_right (by omega), List.getElem?_replicate] at e
        split at e
        · cases e; exact .inr ⟨by omega, rfl⟩
        · cases e
    have st : ∀ {i : Nat}, i < Γ0.length → (start N vs)[i]? = (vs.map some)[i]? := fun {i} hi => by
      unfold L2.start
      rw [List.getElem?_append_left (by rw [hvs]; exact hi)]
    have st2 : ∀ {i : Nat} {a : Addr}, i < Γ0.length → (start N vs)[i]? = some (some (V.ref a)) → vs[i]? = some (.ref a) := fun {i a} hi e => by
      rw [st hi, List.getElem?_map] at e
      obtain ⟨v, e1, e2⟩ := Option.map_eq_some_iff.mp e
      cases e2
      exact e1
    have rel : Rel K Z (Γ0 ++ List.replicate (df.slots - df.np) .no) (start N vs) H (onT K rs) := by
      refine ⟨?_, fun i s e => ?_, fun i j s t a hij ei ej si sj vi => ?_, hz, hzd, fun a m => ?_, fun p hp => ⟨.inr ⟨p, hp, rfl⟩, htb p hp⟩, fun a z x y => ?_⟩
      rotate_left 4
      · rcases z with (z | ⟨p, hp, rfl⟩) | z
        · exact ha.noCode a z x y
        · obtain ⟨ps, e, _⟩ := htb p hp
          rw [e]
          exact fun z => by cases z
        · exact hnc a z x y
      rotate_right 1
      · rcases m with m | ⟨p, hp, rfl⟩
        · exact ha.there a m
        · obtain ⟨ps, e, _⟩ := htb p hp
          rw [e]
          exact fun z => nomatch z
      · unfold L2.start
        rw [List.length_append, List.length_append, List.length_replicate, List.length_replicate, hvs, hsl]
      · rcases tail e with ⟨hi, e⟩ | ⟨hi, rfl⟩
        · rw [st hi]
          exact s1 i s e
        · trivial
      · rcases tail ei with ⟨hi, ei⟩ | ⟨hi, rfl⟩
        · rcases tail ej with ⟨hj, ej⟩ | ⟨hj, rfl⟩
          · exact fun vj => s3 i j s t a hij ei ej si sj (st2 hi vi) (st2 hj vj)
          · cases sj
        · cases si
    refine ⟨Z, onT K rs, _, rel, ?_⟩
    -- the end
    have fin' : ∀ {v : V} {σ' : L2.St} {H' : Hp} {M' : AS} {Γ' : Env} {d : D} {fr : Bool} {os : List D}, Rel K Z Γ' σ' H' M' → Fr H (onT K rs) H' M' → Eqs (refIx 0 df.modes) (start N vs) σ' → outs df.modes Γ' = some os → RVal K Z Γ' σ' H' M' d fr v →
        Post K Z rs H H' M' ∧ OutsOk K H' (un M' Z) os rs ∧ (if fr = true then ∃ p, v = .ref p ∧ M' p ∧ Own K H' (un M' Z) p d ∧ p ∉ rs else Rp K H' (un M' Z) d v) := fun {v σ' H' M' Γ' d fr os} r f e ho rv => by
      have slot : ∀ i ∈ refIx 0 df.modes, ∀ v, 0 ≤ i → vs[i - 0]? = some v → σ'[i]? = some (some v) := fun i hi v _ ev => by
        have hlt := (refIx_ge hi).2
        rw [e i hi, st (by omega), List.getElem?_map]
        rw [Nat.sub_zero] at ev
        rw [ev]
        rfl
      obtain ⟨h1, h2⟩ := outs_at r (n := 0) (Γn := Γ') (fun i => by rw [Nat.zero_add]) ho ha slot
      refine ⟨⟨f, h2, r.tb, r.zm, r.md, fun a m => r.nc a (.inl m)⟩, h1, ?_⟩
      unfold RVal at rv
      split at rv
      · rename_i hfr
        rw [if_pos hfr]
        obtain ⟨p, rfl, mp, op, ap⟩ := rv
        refine ⟨p, rfl, mp, op, fun m => ?_⟩
        exact own_slot r ho ha (n := 0) (Γn := Γ') (fun i => by rw [Nat.zero_add]) slot m ap
      · rename_i hfr
        rw [if_neg hfr]
        exact rv
    cases e2 : evSs cf df.body (Γ0 ++ List.replicate (df.slots - df.np) .no) with
    | nx Γ' =>
      rw [e2] at hrun
      dsimp only at hrun
      obtain ⟨o, e3, e4⟩ := Option.map_eq_some_iff.mp hrun
      cases e4
      intro σ' H' M' r f e
      obtain ⟨h1, h2, h3⟩ := fin' r f e e3 (v := .non) (d := .non) (fr := false) (by unfold RVal; rfl)
      exact q .non H' M' h1 h2 h3
    | rt d' fr' Γ' =>
      rw [e2] at hrun
      dsimp only at hrun
      obtain ⟨o, e3, e4⟩ := Option.map_eq_some_iff.mp hrun
      cases e4
      intro v σ' H' M' r f e rv
      obtain ⟨h1, h2, h3⟩ := fin' r f e e3 rv
      exact q v H' M' h1 h2 h3
    | ex c d' Γ' =>
      rw [e2] at hrun
      dsimp only at hrun
      cases e3 : df.modes.any id with
      | true => rw [e3, if_pos rfl] at hrun; cases hrun
      | false =>
        rw [e3, if_neg Bool.false_ne_true] at hrun
        cases hrun
        intro σ' H' M' dx r f e hx
        have rnil : rs = [] := noRef ha e3
        exact q H' M' dx ⟨f, (fun a m => by rw [rnil] at m; cases m), r.tb, r.zm, r.md, fun a m => r.nc a (.inl m)⟩ hx
    | bk Γ' => rw [e2] at hrun; cases hrun
    | ct Γ' => rw [e2] at hrun; cases hrun
    | no => rw [e2] at hrun; cases hrun
where
  noRef {A0 : AS} {H0 : Hp} : ∀ {ms : List Bool} {ds : List D} {vs : List V} {rs : List Addr}, ArgsOk K H0 A0 ms ds vs rs → ms.any id = false → rs = []
    | [], ds, vs, rs, h, e => by
      cases ds <;> cases vs <;> cases rs <;> first | rfl | exact h.elim
    | false :: ms, [], vs, rs, h, e => h.elim
    | false :: ms, d :: ds, [], rs, h, e => h.elim
    | false :: ms, d :: ds, v :: vs, rs, h, e => noRef h.2 e
    | true :: ms, ds, vs, rs, h, e => by cases e
  own_slot {K : KB} {Z : AS} {H0 : Hp} {A0 : AS} {Γ : Env} {σ : L2.St} {H : Hp} {M : AS} (r : Rel K Z Γ σ H M) : ∀ {ms : List Bool} {n : Nat} {ds : List D} {vs : List V} {rs : List Addr} {os : List D} {Γn : Env} {p : Addr}, outs ms Γn = some os → ArgsOk K H0 A0 ms ds vs rs → (∀ i, Γn[i]? = Γ[n + i]?) →
      (∀ i ∈ refIx n ms, ∀ v, n ≤ i → vs[i - n]? = some v → σ[i]? = some (some v)) → p ∈ rs → Apart Γ σ p → False
    | [], n, ds, vs, rs, os, Γn, p, h, ha, hn, hv, m, ap => by
      cases ds <;> cases vs <;> cases rs <;> first | (cases m; done) | exact ha.elim
    | false :: ms, n, [], vs, rs, os, Γn, p, h, ha, hn, hv, m, ap => ha.elim
    | false :: ms, n, d :: ds, [], rs, os, Γn, p, h, ha, hn, hv, m, ap => ha.elim
    | false :: ms, n, d :: ds, v :: vs, rs, os, Γn, p, h, ha, hn, hv, m, ap => by
      cases Γn with
      | nil => unfold outs at h; cases h
      | cons s Γn =>
        unfold outs at h
        refine own_slot r (n := n + 1) h ha.2 (fun i => ?_) (fun i hi v' le e => ?_) m ap
        · have := hn (i + 1)
          rw [show n + 1 + i = n + (i + 1) by omega, ← this]
          rfl
        · refine hv i hi v' (by omega) ?_
          rw [show i - n = (i - (n + 1)) + 1 by omega]
          exact e
    | true :: ms, n, [], vs, rs, os, Γn, p, h, ha, hn, hv, m, ap => ha.elim
    | true :: ms, n, d :: ds, [], rs, os, Γn, p, h, ha, hn, hv, m, ap => ha.elim
    | true :: ms, n, d :: ds, v :: vs, [], os, Γn, p, h, ha, hn, hv, m, ap => ha.elim
    | true :: ms, n, d :: ds, v :: vs, b :: rs, os, Γn, p, h, ha, hn, hv, m, ap => by
      cases Γn with
      | nil => unfold outs at h; cases h
      | cons s Γn =>
        cases s with
        | bo o =>
          unfold outs at h
          obtain ⟨os', e, rfl⟩ := Option.map_eq_some_iff.mp h
          obtain ⟨rfl, own, ha⟩ := ha
          rcases List.mem_cons.mp m with rfl | m
          · have e0 : Γ[n]? = some (.bo o) := (hn 0).symm
            exact ap n _ e0 rfl (hv n List.mem_cons_self (.ref p) (Nat.le_refl _) (by rw [Nat.sub_self]; rfl))
          · refine own_slot r (n := n + 1) e ha (fun i => ?_) (fun i hi v' le e => ?_) m ap
            · have := hn (i + 1)
              rw [show n + 1 + i = n + (i + 1) by omega, ← this]
              rfl
            · refine hv i (List.mem_cons_of_mem _ hi) v' (by omega) ?_
              rw [show i - n = (i - (n + 1)) + 1 by omega]
              exact e
        | no => unfold outs at h; cases h
        | sh d => unfold outs at h; cases h
        | ow d => unfold outs at h; cases h
theorem spD_len {g : List D → Option Oc} {ms : List Bool} {vs : List V} {H : Hp} {Q : VK} {E : XK} (h : spD K g ms vs H Q E) : vs.length = ms.length := by
  obtain ⟨Z, ds, rs, oc, hrun, ha, _⟩ := h
  exact ha.len.2
end
section
variable {P : Program} {w : World} {k : PySem.W.Frag} {C C' : Cl} {mg : Str → Option Value} {base : Heap} {n : Nat} {f : Addr} {fd : FuncData} {name qual : Str} {params : Arguments} {body : List Stmt} {scope : Scope} {N ps : List Str} {cf : CallF} {df : Df}
/-- a def, by its body's rule -/
theorem def_g (F : FunD k name qual params body scope [] [] f fd) (S : FnScope N ps scope) (hN : N.length = df.slots) (hp : ps.length = df.np) (hms : df.modes.length = df.np) (hle : df.np ≤ df.slots)
    (hbody : ∀ (cd : Value), fd.code = cd → ∀ (A : Around) (outer : List PySem.Env) (s : Shared) (H : Hp) (E : XK), Gd (cxG P w k mg base N qual scope f cd A outer s H E) → Takes (cxG P w k mg base N qual scope f cd A outer s H E) (wE E) → Room n (cxG P w k mg base N qual scope f cd A outer s H E).A →
      PSs (cxG P w k mg base N qual scope f cd A outer s H E) body (tS ⟨k, C⟩ (wE E) (refIx 0 df.modes) (evSs cf df.body))) : FnG P w k mg base (n + 1) f fd ps (spD ⟨k, C⟩ (runDf cf df) df.modes) :=
  fn_g F S (fun vs H Q E h => (spD_len h).trans (hms.trans hp.symm)) fun cd hcd A outer s H E G tk hr vs Q h => ⟨_, hbody cd hcd A outer s H E G tk hr, body_at hN hp hms hle h⟩
/-- a def that makes lambdas -/
theorem def_y (hm : df.mkr = true) (F : FunD k name qual params body scope [] [] f fd) (S : FnScope N ps scope) (hN : N.length = df.slots) (hp : ps.length = df.np) (hms : df.modes.length = df.np) (hle : df.np ≤ df.slots)
    (hbody : ∀ (cd : Value), fd.code = cd → ∀ (A : Around) (outer : List PySem.Env) (s : Shared) (H : Hp) (E : XK), Gd (cxG P w k mg base N qual scope f cd A outer s H E) → Takes (cxG P w k mg base N qual scope f cd A outer s H E) (wE E) → Room n (cxG P w k mg base N qual scope f cd A outer s H E).A →
      PSs (cxG P w k mg base N qual scope f cd A outer s H E) body (tS ⟨k, ⟨(cxG P w k mg base N qual scope f cd A outer s H E).env.cells, C.lams⟩⟩ (wE E) (refIx 0 df.modes) (evSs cf df.body))) : FnG P w k mg base (n + 1) f fd ps (spD ⟨k, C⟩ (runDf cf df) df.modes) :=
  fn_g F S (fun vs H Q E h => (spD_len h).trans (hms.trans hp.symm)) fun cd hcd A outer s H E G tk hr vs Q h => ⟨_, hbody cd hcd A outer s H E G tk hr, body_at hN hp hms hle (spD_cells (c := C) (c' := ⟨(cxG P w k mg base N qual scope f cd A outer s H E).env.cells, C.lams⟩) rfl hm h)⟩
theorem def_0 {ms : List Bool} {m : Nat} (hp : ps.length = ms.length) : FnG P w k mg base m f fd ps (spD ⟨k, C⟩ (fun _ => none) ms) :=
  ⟨fun vs H Q E h => (spD_len h).trans hp.symm, fun A outer s H args us vs Q E _ _ _ _ _ h => by obtain ⟨_, _, _, _, e, _⟩ := h; cases e⟩
end
end Dn
end

section
set_option linter.all false
set_option autoImplicit false
set_option maxRecDepth 10000
/-! DnN: the top's facts, the law's end. -/
namespace Dn
open PySem PySem.Spec PyProof.Rows L2

/-! ### the part of the heap that the module's defs hold -/
def forceO {α : Type} (o : Obj) (k : Obj → α) : α := match o with
  | ⟨c, d, dt, sl⟩ => k ⟨c, d, dt, sl⟩
theorem forceO_eq {α : Type} (o : Obj) (k : Obj → α) : forceO o k = k o := by cases o; rfl
def forceF {α : Type} : List (Addr × Obj) → (List (Addr × Obj) → α) → α
  | [], k => k []
  | p :: r, k => HandSHeadRun.frNat p.1 fun a => forceO p.2 fun o => forceF r fun l => k ((a, o) :: l)
theorem forceF_eq {α : Type} : ∀ (l : List (Addr × Obj)) (k : List (Addr × Obj) → α), forceF l k = k l
  | [], k => rfl
  | p :: r, k => by
    unfold forceF
    rw [HandSHeadRun.frNat_eq, forceO_eq, forceF_eq]
/-- what an object names, a def's cells too -/
def nxA (g : Addr → Option Obj) (a : Addr) : List Addr := match g a with
  | some o => He.refsO o ++ (match o.data with
    | .func fd => fd.closure.map (·.2)
    | _ => [])
  | none => []
/-- where a global's value stands, and what it names; of a class: three steps -/
def nmA (g : Addr → Option Obj) (K0 : PySem.W.Frag) (x : Str) : List Addr := match PySem.W.nsIn K0 mainGlobals x with
  | some (some (.ref a)) => a :: (match g a with
    | some ⟨_, _, .cls cd, _⟩ => cd.ns :: ((nxA g cd.ns).flatMap fun b => b :: (nxA g b))
    | some o => He.refsO o
    | none => [])
  | _ => []
def asN (g : Addr → Option Obj) (xs : List Str) : List Addr := forceF (He.frG g [mainGlobals]) fun K0 => mainGlobals :: cStatics :: xs.flatMap (nmA g K0)
def noL (K : PySem.W.Frag) : Bool := K.all fun p => match p.2.cls with
  | .type c => !(c == "list")
  | .none => (match p.2.data with
    | .dict _ _ => true
    | _ => false)
  | _ => true
/-- the code objects of the defs, and their tables -/
def mks (k : PySem.W.Frag) : List (Addr × Addr) := k.filterMap fun p => match p.2.data with
  | .func fd => if (fd.name == ("<lambda>" : Str)) then none else match fd.code with
    | .ref c => (tabOf k (.ref c)).map fun P => (c, P)
    | _ => none
  | _ => none
theorem tabs_mks {k : PySem.W.Frag} {p : Addr × Str} (h : p ∈ tabs k) : ∃ c, (c, p.1) ∈ mks k := by
  unfold tabs at h
  obtain ⟨q, hq, e⟩ := List.mem_filterMap.mp h
  split at e
  · rename_i fd hd
    split at e
    · cases e
    · rename_i hn
      obtain ⟨P, e1, rfl⟩ := Option.map_eq_some_iff.mp e
      cases hc : fd.code with
      | ref c =>
        refine ⟨c, List.mem_filterMap.mpr ⟨q, hq, ?_⟩⟩
        dsimp only
        rw [hd]
        dsimp only
        rw [if_neg hn, hc]
        dsimp only
        rw [← hc, e1]
        rfl
      | _ => rw [hc] at e1; cases e1
  · cases e
theorem mks_tabs {k : PySem.W.Frag} {q : Addr × Addr} (h : q ∈ mks k) : q.2 ∈ (tabs k).map (·.1) := by
  unfold mks at h
  obtain ⟨p, hp, e⟩ := List.mem_filterMap.mp h
  split at e
  · rename_i fd hd
    split at e
    · cases e
    · rename_i hn
      split at e
      · rename_i c hc
        obtain ⟨P, e1, rfl⟩ := Option.map_eq_some_iff.mp e
        refine List.mem_map.mpr ⟨(P, fd.qualname ++ ".<locals>." ++ "<lambda>"), List.mem_filterMap.mpr ⟨p, hp, ?_⟩, rfl⟩
        rw [hd]
        dsimp only
        rw [if_neg hn, hc, e1]
        rfl
      · cases e
  · cases e
def codeB (k : PySem.W.Frag) (q : Addr × Addr) : Bool := match k.lookup q.1 with
  | some ⟨.type t, _, .fields vs, _⟩ => t == "code" && (decide ((vs[11]? : Option Value) = some (Value.ref q.2)) && (!(q.1 == q.2) && ((match vs.getD 18 .none with
      | .str _ _ => true
      | _ => false) && ((match vs.getD 7 .none with
      | .int _ _ => true
      | _ => false) && ((match vs.getD 9 .none with
      | .bool _ => true
      | _ => false) && (match vs.getD 10 .none with
      | .int _ _ => true
      | _ => false))))))
  | _ => false
theorem codeB_ok {k : PySem.W.Frag} {q : Addr × Addr} {h : Heap} (X : k.In h) (e : codeB k q = true) : PySem.W.CodeHd h q.1 q.2 := by
  unfold codeB at e
  split at e
  rotate_left
  · cases e
  rename_i t od vs sl hk
  simp only [Bool.and_eq_true, decide_eq_true_eq, Bool.not_eq_true'] at e
  obtain ⟨h1, h2, h3, h4, h5, h6, h7⟩ := e
  have ht : t = "code" := by simpa using h1
  subst ht
  have hne : q.1 ≠ q.2 := by simpa using h3
  cases e18 : vs.getD 18 .none with
  | str f tf =>
    cases e7 : vs.getD 7 .none with
    | int fl tg =>
      cases e9 : vs.getD 9 .none with
      | bool b =>
        cases e10 : vs.getD 10 .none with
        | int x tt =>
          refine ⟨_, vs, f, tf, fl, tg, b, x, tt, X _ _ hk, rfl, rfl, h2, ?_, e18, e7, e9, e10, hne⟩
          rw [Array.getD_eq_getD_getElem?, h2]
          rfl
        | _ => rw [e10] at h7; cases h7
      | _ => rw [e9] at h6; cases h6
    | _ => rw [e7] at h5; cases h5
  | _ => rw [e18] at h4; cases h4
def emT : Option Obj → Bool
  | some ⟨.none, none, .fields vs, sl⟩ => vs.toList.isEmpty && sl.toList.isEmpty
  | _ => false
theorem emT_ok {o : Option Obj} (h : emT o = true) : o = some { cls := .none, data := .fields #[] } := by
  unfold emT at h
  split at h
  · rename_i vs sl
    obtain ⟨h1, h2⟩ := Bool.and_eq_true_iff.mp h
    obtain ⟨vl⟩ := vs
    obtain ⟨sll⟩ := sl
    cases vl with
    | nil =>
      cases sll with
      | nil => rfl
      | cons a b => cases h2
    | cons a b => cases h1
  · cases h
/-- the tables are empty, each code object is one -/
def tabB (g : Addr → Option Obj) (K : PySem.W.Frag) : Bool := ((tabs K).all fun p => emT (g p.1)) && (mks K).all (codeB K)
abbrev AlN : Type := Bool × Bool × He.AlD
def obsK (g : Addr → Option Obj) (fa : List He.Fa) (fn : List He.DefD) (K : PySem.W.Frag) : AlN := (noL K, tabB g K, He.obsD fa fn K)
def obsN (xs : List Str) (fa : List He.Fa) (fn : List He.DefD) (g : Addr → Option Obj) : AlN := forceF (He.frG g (asN g xs)) (obsK g fa fn)
structure SaysN (fa : List He.Fa) (fn : List He.DefD) (K : PySem.W.Frag) (h : Heap) : Prop where
  no : noL K = true
  tb : ∀ p ∈ tabs K, h.get? p.1 = some { cls := .none, data := .fields #[] }
  cd : ∀ q ∈ mks K, codeB K q = true
  all : He.SaysD fa fn K
def hookN (xs : List Str) (fa : List He.Fa) (fn : List He.DefD) : PySem.W.Hook where
  α := AlN
  obs := fun s => obsN xs fa fn s.heap.get?
  val := fun _ => (true, true, He.valD fn)
  says := fun _ h => ∃ K : PySem.W.Frag, K.In h ∧ SaysN fa fn K h
  of := fun _ s e => ⟨He.frG s.heap.get? (asN s.heap.get? xs), He.frG_in, by
    unfold obsN at e
    rw [forceF_eq] at e
    have e2 := congrArg (fun z : AlN => z.2.1) e
    have e2 : tabB s.heap.get? (He.frG s.heap.get? (asN s.heap.get? xs)) = true := e2
    unfold tabB at e2
    obtain ⟨e3, e4⟩ := Bool.and_eq_true_iff.mp e2
    exact ⟨congrArg Prod.fst e, fun p hp => emT_ok (List.all_eq_true.mp e3 p hp), fun q hq => List.all_eq_true.mp e4 q hq, congrArg (fun z : AlN => z.2.2) e⟩⟩
  keeps := fun _ _ _ ⟨K, hK, c⟩ k => ⟨K, PySem.W.Frag.In.keeps hK k, ⟨c.no, fun p hp => k _ _ (c.tb p hp), c.cd, c.all⟩⟩
theorem obsN_eq {xs : List Str} {fa : List He.Fa} {fn : List He.DefD} {g : Addr → Option Obj} {s : Shared} (h : ∀ a, g a = s.heap.get? a) : obsN xs fa fn g = (hookN xs fa fn).obs s := by
  have e : g = s.heap.get? := funext h
  rw [e]
  rfl
theorem lookup_in {α : Type} {a : Addr} {o : α} : ∀ {K : List (Addr × α)}, K.lookup a = some o → ∃ p ∈ K, p.2 = o
  | [], e => by cases e
  | p :: r, e => by
    rw [List.lookup_cons] at e
    split at e
    · cases e
      exact ⟨p, List.mem_cons_self, rfl⟩
    · obtain ⟨q, m, h⟩ := lookup_in e
      exact ⟨q, List.mem_cons_of_mem _ m, h⟩
theorem noL_at {K : PySem.W.Frag} {a : Addr} {o : Obj} (h : noL K = true) (e : K.lookup a = some o) : o.cls ≠ .type "list" ∧ ¬ (o.cls = .none ∧ o.data = .fields #[]) := by
  obtain ⟨p, m, rfl⟩ := lookup_in e
  have := List.all_eq_true.mp h p m
  refine ⟨fun ec => ?_, fun ec => ?_⟩
  · rw [ec] at this
    exact absurd (show (!(("list" : String) == "list")) = true from this) (by decide)
  · rw [ec.1, ec.2] at this
    exact absurd this (by decide)

/-! ### the law's call -/
/-- what the walk asks of the ground -/
structure BaseOk (K : PySem.W.Frag) (mg : Str → Option Value) (base : Heap) : Prop where
  inn : K.In base
  ns : base.Ns mainGlobals mg
  tb : ∀ q ∈ mks K, LamX.TabB base mg q.1 q.2
section
variable {P : Program} {w : World} {K : PySem.W.Frag} {mg mb : Str → Option Value} {k : Nat} {fa a : Addr} {fd : FuncData} {x : Str} {sp : Sp} {s₁ : Shared} {vs : List Value} {ns : List Int}
/-- the heap that tracks the script and the tables -/
def hpS (K : PySem.W.Frag) (a : Addr) (vs : List Value) (ns : List Int) : Hp := fun b => if b = a then some (.frz { cls := .type "list", data := .seq vs.toArray } (.lst (ns.map V.int))) else if b ∈ (tabs K).map (·.1) then some (.tbl #[]) else none
theorem hpS_at : hpS K a vs ns a = some (.frz { cls := .type "list", data := .seq vs.toArray } (.lst (ns.map V.int))) := if_pos rfl
theorem hpS_tab {b : Addr} (h : b ≠ a) (m : b ∈ (tabs K).map (·.1)) : hpS K a vs ns b = some (.tbl #[]) := (if_neg h).trans (if_pos m)
theorem hpS_ne {b : Addr} (h : b ≠ a) (m : b ∉ (tabs K).map (·.1)) : hpS K a vs ns b = none := (if_neg h).trans (if_neg m)
theorem hpS_cases {b : Addr} : b = a ∨ (b ≠ a ∧ b ∈ (tabs K).map (·.1)) ∨ (b ≠ a ∧ b ∉ (tabs K).map (·.1)) := by
  by_cases h : b = a
  · exact .inl h
  · by_cases m : b ∈ (tabs K).map (·.1)
    · exact .inr (.inl ⟨h, m⟩)
    · exact .inr (.inr ⟨h, m⟩)
theorem law_g (KX : K.In s₁.heap) (nl : noL K = true) (hT : ∀ p ∈ tabs K, s₁.heap.get? p.1 = some { cls := .none, data := .fields #[] }) (cds : ∀ q ∈ mks K, codeB K q = true) (hns : s₁.heap.Ns mainGlobals mg) (hb : s₁.heap.Ns builtinsNs mb) (hbb : ∀ y : Str, y ≠ "__name__" → mb y = bootBuiltins y) (lim : s₁.heap.NoLimit) (hg : s₁.gens = #[])
    (hbm : ∃ (bm : Addr) (ob : Obj), mg "__builtins__" = some (.ref bm) ∧ bm ≠ builtinsNs ∧ s₁.heap.get? bm = some ob ∧ ob.cls = .type "module" ∧ ob.dict = some builtinsNs ∧ ob.data = .plain)
    (ha : s₁.heap.get? a = some { cls := .type "list", data := .seq vs.toArray }) (hi : IntsAre vs ns) (hl : ns.length ≤ sizeLine) (hr : Room k callerA)
    (F : ∀ base : Heap, BaseOk K mg base → FnG P w K mg base k fa fd [x] sp) (bind1 : ∀ (s : Shared) (u : Value), BindsTo s fd ⟨[u], []⟩ [(x, u)])
    (hsp : a ∉ (tabs K).map (·.1) → sp [.ref a] (hpS K a vs ns) (fun v _ => v = .bl true) E0) :
    codeAny (model P w) callerA (.call (.ref fa) ⟨[.ref a], []⟩) (fun r s' => r = .ok (.ret (.bool true)) ∧ OldK s₁.heap s'.heap ∧ s'.os = s₁.os ∧ AllBare s'.gens) s₁ := by
  have rv := vals_ints hi
  have lenV := hi.length
  have tabAt : ∀ {b : Addr}, b ∈ (tabs K).map (·.1) → s₁.heap.get? b = some { cls := .none, data := .fields #[] } := fun {b} m => by
    obtain ⟨p, hp, e⟩ := List.mem_map.mp m
    rw [← e]
    exact hT p hp
  have aT : a ∉ (tabs K).map (·.1) := fun z => by
    have e := tabAt z
    rw [ha] at e
    have e2 : Data.seq vs.toArray _ = Data.fields #[] := congrArg Obj.data (Option.some.inj e)
    cases e2
  have kn : ∀ {b : Addr}, b = a ∨ b ∈ (tabs K).map (·.1) → K.lookup b = none := fun {b} z => by
    cases q : K.lookup b with
    | none => rfl
    | some o =>
      have e := KX b o q
      rcases z with rfl | z
      · rw [ha] at e
        cases e
        exact absurd rfl (noL_at nl q).1
      · rw [tabAt z] at e
        cases e
        exact absurd ⟨rfl, rfl⟩ (noL_at nl q).2
  have back : ∀ {b : Addr} {o : Obj}, s₁.heap.get? b = some o → hpS K a vs ns b = none → (hidT s₁.heap (hpS K a vs ns)).get? b = some o := fun e n => hidT_get e n
  have free : ∀ {b : Addr} {o : Obj}, s₁.heap.get? b = some o → (∀ us n, o.data ≠ .seq us n) → o.data ≠ .fields #[] → hpS K a vs ns b = none := fun {b o} e n1 n2 => by
    rcases hpS_cases (K := K) (a := a) (b := b) with h | ⟨h, m⟩ | ⟨h, m⟩
    · rw [h, ha] at e
      cases e
      exact absurd rfl (n1 _ _)
    · rw [tabAt m] at e
      cases e
      exact absurd rfl n2
    · exact hpS_ne h m
  have notDict : ∀ {b : Addr} {o : Obj} {es : Array DictEntry} {ep : Nat}, s₁.heap.get? b = some o → o.data = .dict es ep → hpS K a vs ns b = none := fun {b o es ep} e d => by
    refine free e (fun us n z => ?_) fun z => ?_
    · rw [d] at z; cases z
    · rw [d] at z; cases z
  have space : ∀ {b : Addr} {m : Str → Option Value}, s₁.heap.Ns b m → (hidT s₁.heap (hpS K a vs ns)).Ns b m := fun {b m} ⟨o, es, ep, e, d, r⟩ => ⟨o, es, ep, back e (notDict e d), d, r⟩
  have inB : K.In (hidT s₁.heap (hpS K a vs ns)) := fun b o e => back (KX b o e) (by
    rcases hpS_cases (K := K) (a := a) (b := b) with h | ⟨h, m⟩ | ⟨h, m⟩
    · rw [kn (.inl h)] at e; cases e
    · rw [kn (.inr m)] at e; cases e
    · exact hpS_ne h m)
  have md : L2.Mod K mg (hidT s₁.heap (hpS K a vs ns)) := ⟨inB, space hns, ⟨mb, space hb, hbb⟩, by obtain ⟨mc, h1, h2⟩ := lim; exact ⟨mc, space h1, h2⟩⟩
  have hok : HOk P w (hpS K a vs ns) s₁.heap := by
    intro b u z
    rcases hpS_cases (K := K) (a := a) (b := b) with h | ⟨h, m⟩ | ⟨h, m⟩
    · subst h
      rw [hpS_at] at z
      cases z
      exact ⟨ha, by rw [List.length_map]; exact hl, vs, _, rv, ha⟩
    · rw [hpS_tab h m] at z
      cases z
      exact tabAt m
    · rw [hpS_ne h m] at z
      cases z
  have tbs : ∀ q ∈ mks K, LamX.TabB (hidT s₁.heap (hpS K a vs ns)) mg q.1 q.2 := fun q hq => by
    have hd := codeB_ok inB (cds q hq)
    have tP : q.2 ∈ (tabs K).map (·.1) := mks_tabs hq
    refine ⟨hd, ?_, fun z => ?_⟩
    · obtain ⟨bm, ob, b1, b2, b3, b4, b5, b6⟩ := hbm
      refine ⟨bm, ob, b1, b2, fun z => ?_, fun z => ?_, back b3 (free b3 (fun us n z => ?_) fun z => ?_), b4, b5, b6⟩
      · obtain ⟨o, es, ep, e, hd, _⟩ := hns
        rw [z, e] at b3
        cases b3
        rw [hd] at b6
        cases b6
      · rw [z, tabAt tP] at b3
        cases b3
        cases b6
      · rw [b6] at z; cases z
      · rw [b6] at z; cases z
    · obtain ⟨o, es, ep, e, hd, _⟩ := hns
      rw [z, tabAt tP] at e
      cases e
      cases hd
  have e0 : Env0 P w K mg (hidT s₁.heap (hpS K a vs ns)) callerA [] s₁ (hpS K a vs ns) :=
    ⟨rfl, md, fun b o e => of_hidT e, Nat.le_of_eq (hidT_size _ _), trivial, fun b hb => absurd (show b ∈ ([] : List Addr) from hb) (by simp), hok, .of_eq hg⟩
  refine codeAny_mono ((F _ ⟨inB, space hns, tbs⟩).run callerA [] s₁ (hpS K a vs ns) ⟨[.ref a], []⟩ [.ref a] [.ref a] _ _ rfl hr e0 (bind1 s₁ (.ref a)) (.cons rfl .nil) (hsp aT)) ?_
  rintro r s' (⟨u, rfl, v, H', os, bare, un, hok', rv', q⟩ | ⟨e, _, _, _, _, _, _, _, _, _, _, _, _, _, h⟩)
  rotate_left
  · exact h.elim
  have q' : v = .bl true := q
  subst q'
  obtain rfl : u = Value.bool true := rv'
  have key : ∀ b o, b ∉ (tabs K).map (·.1) → s₁.heap.get? b = some o → s'.heap.get? b = some o := fun b o nb e => by
    rcases hpS_cases (K := K) (a := a) (b := b) with h | ⟨h, m⟩ | ⟨h, m⟩
    · subst h
      have z2 := un.frzs b _ _ hpS_at
      obtain ⟨e2, _⟩ := hok' b _ z2
      rw [ha] at e
      cases e
      exact e2
    · exact absurd m nb
    · exact un.keep b o e (hpS_ne h m) (by intro z; exact absurd (show b ∈ ([] : List Addr) from z) (by simp)) (by simp)
  have grown : ∀ b, b ∈ (tabs K).map (·.1) → ∃ more : Array Value, s'.heap.get? b = some { cls := .none, data := .fields more } := fun b m => by
    obtain ⟨more, z⟩ := un.tbls b #[] (hpS_tab (fun z => aT (by rw [← z]; exact m)) m)
    exact ⟨_, hok' b _ z⟩
  refine ⟨rfl, ⟨fun b o e => ?_, fun b o e => ?_⟩, os, bare⟩
  · by_cases hb : b ∈ (tabs K).map (·.1)
    · obtain ⟨more, hm⟩ := grown b hb
      obtain ⟨p, hp, ep⟩ := List.mem_map.mp hb
      obtain ⟨c, hc⟩ := tabs_mks hp
      have hd := codeB_ok KX (cds _ hc)
      rw [tabAt hb] at e
      cases e
      rw [ep] at hd
      exact .inr (.inl ⟨(hd.tab (tabAt hb)).isCodeTable, rfl, #[], more, rfl, by rw [Array.empty_append]; exact hm⟩)
    · exact .inl (key b o hb e)
  · by_cases hb : b ∈ (tabs K).map (·.1)
    · obtain ⟨more, hm⟩ := grown b hb
      exact ⟨_, hm⟩
    · exact ⟨o, key b o hb e⟩
end
/-- the script as data -/
def scr (ns : List Int) : D := .fz (ns.map .int)
/-- a law, by its def's run on the script's data -/
theorem walk_g {l : PySem.W.OpenLaw} {n k : Nat} {q : Program} {loose : List Str} {XP : (Str → Option Value) → Heap → Prop} {xs : List Str} {fa : List He.Fa} {fn : List He.DefD} {d : DefRec} {x : Str} {C : Cl} {g : List D → Option Oc}
    (hn : l.most = some n) (hn2 : n ≤ sizeLine) (hdf : d.params.defaults = []) (hr : Room k callerA)
    (F : ∀ (w : World) (mg : Str → Option Value) (f : Addr) (h : Heap) (K : PySem.W.Frag), K.In h → SaysN fa fn K h → h.Ns mainGlobals mg → mg d.name = some (.ref f) →
      ∃ fd : FuncData, (∀ (s : Shared) (u : Value), BindsTo s fd ⟨[u], []⟩ [(x, u)]) ∧ ∀ base : Heap, BaseOk K mg base → FnG l.prog w K mg base k f fd [x] (spD ⟨K, C⟩ g [false]))
    (hlaw : ∀ ns : List Int, ns.length ≤ n → (∀ k ∈ ns, Builtin.Int.intBits k ≤ 1048576) → g [scr ns] = some (.ok (.bl true) false [])) :
    PySem.W.WalkO q loose XP (hookN xs fa fn).says l.row.toRowW d [] (fun f vs => PySem.call f vs) := by
  refine Att.attach_callB hn hdf fun w s₀ s₁ mg mb f o pm cd doc a vs ns G Y ho hd hcd hmg hobj hints hlen hbits hg => ?_
  obtain ⟨K, KX, Y⟩ := Y
  obtain ⟨fd, hb, hF⟩ := F w mg f _ K KX Y G.T.g hmg
  refine law_g KX Y.no Y.tb Y.cd G.T.g G.T.b G.T.builtins G.T.nolimit hg G.T.bmain hobj hints (Nat.le_trans hlen hn2) hr hF hb fun aT => ?_
  have nT : ∀ {b : Addr}, onT ⟨K, C⟩ [] b → b ∈ (tabs K).map (·.1) := fun {b} m => by
    rcases m with m | ⟨p, hp, e⟩
    · cases m
    · exact List.mem_map.mpr ⟨p, hp, e⟩
  refine ⟨fun _ => False, [scr ns], [], _, hlaw ns hlen hbits, ⟨?_, trivial⟩, .nil, fun _ h => h.elim, fun _ h => h.elim, fun p hp => LamX.TabS.nil (hpS_tab (fun z => aT (by rw [← z]; exact List.mem_map.mpr ⟨p, hp, rfl⟩)) (List.mem_map.mpr ⟨p, hp, rfl⟩)), fun _ h => h.elim, fun v H' M' _ _ hv => hv⟩
  refine ⟨a, _, ns.map V.int, rfl, fun u => ?_, hpS_at, Rps.ofInts ns⟩
  rcases u with u | u
  · exact aT (nT u)
  · exact u
end Dn
end

section
set_option linter.all false
set_option autoImplicit false
set_option maxRecDepth 10000
/-! DnO: calls that may raise, as statements. -/
namespace Dn
open PySem PySem.Spec PyProof.Rows L2
section
variable {X : Cx} {C : Cl} {W : WX} {cf : CallF} {pos : Pos} {B : List Nat} {e : Expr} {x : Xc}
theorem s_xexp (he : PE X e (tX (kb X C) W (evX cf x))) (hs : noComp e = true := by rfl) : PS X (.Expr e pos) (tS (kb X C) W B (evS cf (.xexp x))) := by
  refine PS.le (ps_expr he (swaps_no hs)) ?_
  rintro D σ H ⟨Z, M, Γ, r, q⟩
  unfold evS at q
  refine ⟨Z, M, Γ, r, ?_⟩
  cases e1 : evX cf x Γ with
  | ok y Γ1 => rw [e1] at q; exact fun v H1 M1 r1 f1 rv => q σ H1 M1 r1 f1 Eqs.refl
  | ex c d Γ1 => rw [e1] at q; exact fun H1 M1 dx r1 f1 hx => q σ H1 M1 dx r1 f1 Eqs.refl hx
  | no => rw [e1] at q; exact q
theorem s_xret (he : PE X e (tX (kb X C) W (evX cf x))) : PS X (.Return (some e) pos) (tS (kb X C) W B (evS cf (.xret x))) := by
  refine PS.le (ps_ret he) ?_
  rintro D σ H ⟨Z, M, Γ, r, q⟩
  unfold evS at q
  refine ⟨Z, M, Γ, r, ?_⟩
  cases e1 : evX cf x Γ with
  | ok y Γ1 => rw [e1] at q; exact fun v H1 M1 r1 f1 rv => q v σ H1 M1 r1 f1 Eqs.refl rv
  | ex c d Γ1 => rw [e1] at q; exact fun H1 M1 dx r1 f1 hx => q σ H1 M1 dx r1 f1 Eqs.refl hx
  | no => rw [e1] at q; exact q
theorem le_xasg {i : Nat} (hB : i ∉ B) : ∀ D σ H, tS (kb X C) W B (evS cf (.xasg i x)) D σ H → tAsg (tX (kb X C) W (evX cf x)) (gName i) D σ H := by
  rintro D σ H ⟨Z, M, Γ, r, q⟩
  unfold evS at q
  refine ⟨Z, M, Γ, r, ?_⟩
  cases e1 : evX cf x Γ with
  | ok y Γ1 =>
    rw [e1] at q
    dsimp only at q
    refine fun v H1 M1 r1 f1 rv => ?_
    cases e3 : store Γ1 i y.1 y.2 with
    | none => rw [e3] at q; exact q.elim
    | some Γ2 =>
      rw [e3] at q
      obtain ⟨r2, _⟩ := r1.store e3 rv
      exact q _ H1 M1 r2 f1 (Eqs.set hB)
  | ex c d Γ1 => rw [e1] at q; exact fun H1 M1 dx r1 f1 hx => q σ H1 M1 dx r1 f1 Eqs.refl hx
  | no => rw [e1] at q; exact q
theorem s_xasg {i : Nat} {y : Str} {pos' : Pos} (G : Gd X) (he : PE X e (tX (kb X C) W (evX cf x))) (hi : X.N[i]? = some y := by rfl) (hx : Loc X.env.scope y := by first | exact .inl rfl | exact .inr rfl)
    (hs : swapsWith e (some (.Name y pos')) pos.line X.env = pure false := by rfl) (hf : X.fn y = true ∨ X.env.scope.names.lookup y = some .local := by first | exact .inl rfl | exact .inr rfl) (hB : i ∉ B := by decide) :
    PS X (.Assign [.Name y pos'] e pos) (tS (kb X C) W B (evS cf (.xasg i x))) := PS.le (ps_set G.nd hi hx he hs hf) (le_xasg hB)
end
end Dn
end

section
set_option linter.all false
set_option autoImplicit false
set_option maxRecDepth 10000
/-! DnP: lambdas made. -/
namespace Dn
open PySem PySem.Spec PyProof.Rows L2
section
variable {X : Cx} {pins : List (Addr × Obj)} {σ : L2.St} {H : Hp} {s : Shared}
/-- a new object, tracked from now on -/
theorem track {f : Addr} {φ : Heap → Prop} (I : Inv X pins σ H s) (hn : H f = none) (h0 : X.s_0.heap.get? f = none) (hx : X.ex = []) (ok : ObjOk X.prog X.w (upd H f (.ext φ)) s.heap f (.ext φ)) (hL : f ≠ X.env.locals) (hc : ∀ y c, X.env.cells.lookup y = some c → c ≠ f) (hp : ∀ p ∈ X.pn ++ pins, p.1 ≠ f) : Inv X pins σ (upd H f (.ext φ)) s := by
  have ne : ∀ b u, H b = some u → b ≠ f := fun b u e => ne_of_none e hn
  have old : ∀ b o, X.s_0.heap.get? b = some o → b ≠ f := fun b o e z => by rw [z, h0] at e; cases e
  obtain ⟨i1, i2, i3, i4, i5, i6, i7, i8, i9, i10, i11⟩ := I
  refine ⟨i1, i2, i3, ⟨fun b o e n => i4.keep b o e n, fun b o e n => i4.slot b o e n, fun b o e n x => ?_, i4.there, fun b xs e => ?_, fun b o u e => ?_, fun b ps e => ?_⟩, i5, i6, ?_, fun y c e => ?_, fun p m => ?_, fun b u e => ?_, i11⟩
  · rw [upd_ne (old b o e)]; exact i4.free b o e n x
  · have h := i4.tups b xs e
    rw [upd_ne (ne b _ h)]; exact h
  · have h := i4.frzs b o u e
    rw [upd_ne (ne b _ h)]; exact h
  · obtain ⟨more, h⟩ := i4.tbls b ps e
    exact ⟨more, by rw [upd_ne (ne b _ h)]; exact h⟩
  · rw [upd_ne (Ne.symm hL)]; exact i7
  · rw [upd_ne (hc y c e)]; exact i8 y c e
  · obtain ⟨a1, a2, a3⟩ := i9 p m
    exact ⟨a1, by rw [upd_ne (hp p m)]; exact a2, a3⟩
  · by_cases hb : b = f
    · subst hb
      rw [upd_same] at e
      cases e
      exact ok
    · rw [upd_ne hb] at e
      exact (i10 b u e).stay (fun c w _ q => q) (fun c q => by rw [upd_ne (ne c _ q)]; exact q) fun c xs q => by rw [upd_ne (ne c _ q)]; exact q
theorem yng_ok {t : Lam} {cells : List (Str × Addr)} {f c' : Addr} {pm ctv : Value} {P : Program} {w : World} {H : Hp} {h : Heap} (e : h.get? f = some (PySem.W.kla_obj "<lambda>" t.qual t.params t.body t.scope (cloFrom cells t.scope.names []) pm c' ctv)) :
    ObjOk P w (upd H f (YngO t cells f c')) h f (YngO t cells f c') :=
  ⟨⟨pm, ctv, e⟩, ⟨_, e⟩, fun h1 h2 ⟨pm, ctv, a⟩ st => ⟨pm, ctv, st _ a⟩⟩
/-- a lambda is made: its function object is new -/
theorem lam_new {T : List (Addr × Str)} {c P : Addr} {params : Arguments} {body : Expr} {scope : Scope} {pos : Pos} {E Q : Value → Shared → Prop} {q : Str} (hq : q = X.env.qual ++ "<lambda>") (I : Inv X pins σ H s) (TB : LamX.TabB X.base X.mg c P) (hcode : X.env.code = .ref c)
    (hm : (P, q) ∈ T) (hu : ∀ p ∈ T, p.1 = P → p.2 = q) (hT : LamX.Tabs T H) (hdef : defaultsOf params X.env = ([], [])) (hfree : ∀ y ∈ scope.names, y.2 = .free → ∃ c, X.env.cells.lookup y.1 = some c)
    (k : ∀ (f c' : Addr) (pm ctv : Value) (H1 : Hp) (s' : Shared), Inv X pins σ H1 s' → (∀ b o, b ≠ P → H b = some o → H1 b = some o) → H1 P ≠ none → LamX.Tabs T H1 → s.heap.objs.size ≤ f →
      s'.heap.get? f = some (PySem.W.kla_obj "<lambda>" q params body scope (cloFrom X.env.cells scope.names []) pm c' ctv) → H1 f = none → H1 c' = some (LamX.CodeO c' q) → (H c' = none ∨ H c' = some (LamX.CodeO c' q)) → Q (.ref f) s') :
    wpAny (model X.prog X.w) X.A (eval (.Lambda params body scope pos) X.env) Q E s := by
  subst hq
  obtain ⟨ps, hP, tri, known⟩ := hT _ hm
  have bltP : s.heap.BuiltinsAt X.mg P := TB.bm.keeps I.bk
  have glb := I.mod.glob.keeps I.bk
  have objP : s.heap.get? P = some { cls := .none, data := .fields ps } := I.hok P _ hP
  refine PySem.W.kla_eval hdef ?_
  cases hc : codeAmong pos ps.toList with
  | some cv =>
    obtain ⟨c', rfl, isC⟩ := known pos cv hc
    refine PySem.W.kla_makeFunctionHit (mg := X.mg) (c := c) (P := P) (ps := ps) (closure_ok hfree) I.ok.glob glb hcode (TB.code.keeps I.bk) objP tri hc bltP ?_
    intro ctv h' tk grown big
    have J : Inv X pins σ H { s with heap := h'.push (PySem.W.kla_obj "<lambda>" (X.env.qual ++ "<lambda>") params body scope (cloFrom X.env.cells scope.names []) ((X.mg "__name__").getD .none) c' ctv), toks := tk } :=
      I.kept fun b o e => Heap.get?_push_of_some _ (grown b o e)
    refine k h'.objs.size c' ((X.mg "__name__").getD .none) ctv H _ J (fun b o _ e => e) (by rw [hP]; exact fun z => by cases z) hT big (Heap.get?_push_size _ rfl) (I.hok.fresh big) isC (.inr isC)
  | none =>
    refine PySem.W.kla_makeFunction (mg := X.mg) (c := c) (P := P) (ps := ps) (closure_ok hfree) I.ok.glob glb hcode (TB.code.keeps I.bk) objP tri hc TB.gP bltP ?_
    intro c' ctv h' tk ext ge lt rec tab
    obtain ⟨c2, oc, vs, t, e2, hoc, hd, hv⟩ := rec
    cases e2
    have big : s.heap.objs.size ≤ h'.objs.size := Nat.le_trans ge (Nat.le_of_lt lt)
    have noC : H c' = none := I.hok.fresh ge
    have neP : P ≠ c' := ne_of_none hP noC
    have J := LamX.inv_table (t' := tk) (more := #[rawInt pos.line, rawInt pos.col, .ref c']) (h' := h'.push (PySem.W.kla_obj "<lambda>" (X.env.qual ++ "<lambda>") params body scope (cloFrom X.env.cells scope.names []) ((X.mg "__name__").getD .none) c' ctv)) (q := X.env.qual ++ "<lambda>") I hP
      (fun b o hb e => Heap.get?_push_of_some _ (ext b o hb e)) (Heap.get?_push_of_some _ tab) ge ⟨oc, vs, t, Heap.get?_push_of_some _ hoc, hd, hv⟩
    have stays : ∀ b o, b ≠ P → H b = some o → upd (upd H P (.tbl (ps ++ #[rawInt pos.line, rawInt pos.col, .ref c']))) c' (LamX.CodeO c' (X.env.qual ++ "<lambda>")) b = some o := fun b o nb e => by
      rw [upd_ne (ne_of_none e noC), upd_ne nb]
      exact e
    have codeStays : ∀ {b q}, H b = some (LamX.CodeO b q) → upd (upd H P (.tbl (ps ++ #[rawInt pos.line, rawInt pos.col, .ref c']))) c' (LamX.CodeO c' (X.env.qual ++ "<lambda>")) b = some (LamX.CodeO b q) := fun {b q} e =>
      stays b _ (fun z => by rw [z, hP] at e; cases e) e
    have asL : (ps ++ #[rawInt pos.line, rawInt pos.col, .ref c']).toList = ps.toList ++ [rawInt pos.line, rawInt pos.col, .ref c'] := by simp
    refine k h'.objs.size c' ((X.mg "__name__").getD .none) ctv _ _ J stays (by rw [upd_ne neP, upd_same]; exact fun z => by cases z) (fun p hp => ?_) big (Heap.get?_push_size _ rfl) ?_ upd_same (.inl noC)
    · by_cases hb : p.1 = P
      · rw [hu p hp hb, hb]
        refine ⟨_, by rw [upd_ne neP, upd_same], by rw [asL]; exact PySem.TriplesOk_snoc _ _ _ _ tri, fun p' cv hcv => ?_⟩
        rw [asL] at hcv
        rcases LamX.among_app _ tri hcv with z | z
        · obtain ⟨c0, e1, e2⟩ := known p' cv z
          exact ⟨c0, e1, codeStays e2⟩
        · exact ⟨c', z, upd_same⟩
      · obtain ⟨ps', a1, a2, a3⟩ := hT p hp
        refine ⟨ps', stays _ _ hb a1, a2, fun p' cv hcv => ?_⟩
        obtain ⟨c0, e1, e2⟩ := a3 p' cv hcv
        exact ⟨c0, e1, codeStays e2⟩
    · rw [upd_ne (Nat.ne_of_gt lt), upd_ne (Nat.ne_of_gt (Nat.lt_of_lt_of_le (Heap.lt_size objP) big))]
      exact I.hok.fresh big
end
/-- a def's code object and its table, known to the written part -/
structure CodeAt (k : PySem.W.Frag) (cd : Value) (q : Str) (c P : Addr) : Prop where
  cd : cd = .ref c
  inm : (c, P) ∈ mks k
  tb : (P, q) ∈ tabs k
  un : ∀ p ∈ tabs k, p.1 = P → p.2 = q
section
variable {X : Cx} {cf : CallF} {L : Nat → Option Lam} {pos : Pos}
/-- lambda: body -/
theorem e_lam {j : Nat} {caps : List Nat} {t : Lam} {params : Arguments} {body : Expr} {scope : Scope} {c P : Addr} {q : Str} (hq : q = X.env.qual ++ "<lambda>") (hj : L j = some t) (ht : t.qual = q) (hcaps : t.caps = caps) (h1 : t.params = params) (h2 : t.body = body) (h3 : t.scope = scope) (CA : CodeAt X.K X.env.code q c P)
    (TB : LamX.TabB X.base X.mg c P) (hx : X.ex = []) (hdef : defaultsOf params X.env = ([], []) := by rfl) (hfree : ∀ y ∈ scope.names, y.2 = .free → X.env.scope.names.lookup y.1 = some .cell) :
    PE X (.Lambda params body scope pos) (tE (kb X ⟨X.env.cells, L⟩) (evE cf (.lam j caps))) := by
  refine ⟨fun pins s σ H Q I h => ?_⟩
  obtain ⟨Z, M, Γ, r, w, Γ', e, k⟩ := h
  cases e
  have has : ∀ y ∈ scope.names, y.2 = .free → ∃ c, X.env.cells.lookup y.1 = some c := fun y hy z => I.ok.has _ (.inl (hfree y hy z))
  refine lam_new hq I TB CA.cd CA.tb CA.un (fun p hp => (r.tb p hp).2) hdef has ?_
  intro f c' pm ctv H1 s' J stays hP tabs1 big obj nf code codeOld
  have mP : M P := (r.tb _ CA.tb).1
  obtain ⟨psP, eP, _⟩ := (r.tb _ CA.tb).2
  have fresh : X.s_0.heap.get? f = none := Heap.get?_none_of_le (Nat.le_trans I.sz big)
  have obj' : s'.heap.get? f = some (PySem.W.kla_obj "<lambda>" t.qual t.params t.body t.scope (cloFrom X.env.cells t.scope.names []) pm c' ctv) := by
    rw [ht, h1, h2, h3]
    exact obj
  have nL : f ≠ X.env.locals := fun z => by
    have h := I.lt
    rw [← z] at h
    exact Nat.lt_irrefl _ (Nat.lt_of_lt_of_le h big)
  have nC : ∀ y a, X.env.cells.lookup y = some a → a ≠ f := fun y a ea z => by
    obtain ⟨v, o, ho, _⟩ := I.cell y a ea
    rw [z] at ho
    exact Nat.lt_irrefl _ (Nat.lt_of_lt_of_le (Heap.lt_size ho) big)
  have nPin : ∀ p ∈ X.pn ++ pins, p.1 ≠ f := fun p hp z => by
    have ho := (I.pin p hp).1
    rw [z] at ho
    exact Nat.lt_irrefl _ (Nat.lt_of_lt_of_le (Heap.lt_size ho) big)
  have J2 := track (φ := fun h => ∃ (pm ctv : Value), h.get? f = some (PySem.W.kla_obj "<lambda>" t.qual t.params t.body t.scope (cloFrom X.env.cells t.scope.names []) pm c' ctv)) J nf fresh hx (yng_ok obj') nL nC nPin
  have nHf : H f = none := I.hok.fresh big
  have stay2 : ∀ b o, b ≠ P → H b = some o → upd H1 f (YngO t X.env.cells f c') b = some o := fun b o nb e => by
    rw [upd_ne (ne_of_none e nHf)]
    exact stays b o nb e
  have neM : ∀ b u, H b = some u → ¬ un M Z b → b ≠ P := fun b u e n z => n (.inl (by rw [z]; exact mP))
  have out : ∀ b u, H b = some u → ¬ un M Z b → upd H1 f (YngO t X.env.cells f c') b = some u ∧ ¬ un M Z b := fun b u e n => ⟨stay2 b u (neM b u e n) e, n⟩
  have ownNe : ∀ {a d}, Own (kb X ⟨X.env.cells, L⟩) H (un M Z) a d → a ≠ P := fun {a d} o z => o.noTab psP (by rw [z]; exact eP)
  have same : ∀ {a d}, Own (kb X ⟨X.env.cells, L⟩) H (un M Z) a d → upd H1 f (YngO t X.env.cells f c') a = H a := fun {a d} o => by
    obtain ⟨u, hu⟩ := Option.ne_none_iff_exists'.mp o.there
    rw [hu]
    exact stay2 a u (ownNe o) hu
  have dm : ∀ a, H a ≠ none → upd H1 f (YngO t X.env.cells f c') a ≠ none := fun a n => by
    obtain ⟨u, hu⟩ := Option.ne_none_iff_exists'.mp n
    by_cases hb : a = P
    · rw [hb, upd_ne (fun z => by rw [z, nHf] at eP; cases eP)]
      exact hP
    · rw [stay2 a u hb hu]
      exact fun z => by cases z
  have fr : Fr H M (upd H1 f (YngO t X.env.cells f c')) M := ⟨fun a o e n => stay2 a o (fun z => n (by rw [z]; exact mP)) e, fun a m => .inl m, dm⟩
  have ncAll : ∀ a, un M Z a → ∀ (_ : Addr) (y : Heap → Prop), upd H1 f (YngO t X.env.cells f c') a ≠ some (.ext y) := fun a m x y => by
    have hne : H a ≠ none := m.elim (r.md a) (r.zd a)
    obtain ⟨u, hu⟩ := Option.ne_none_iff_exists'.mp hne
    by_cases hb : a = P
    · obtain ⟨ps1, e1, _⟩ := tabs1 _ CA.tb
      rw [hb, upd_ne (fun z => by rw [z, nHf] at eP; cases eP), e1]
      exact fun z => by cases z
    · rw [stay2 a u hb hu, ← hu]
      exact r.nc a m x y
  have rel : Rel (kb X ⟨X.env.cells, L⟩) Z Γ σ (upd H1 f (YngO t X.env.cells f c')) M := by
    refine ⟨r.len, fun i sl e => ?_, r.inj, r.zm, fun a z => dm a (r.zd a z), fun a z => dm a (r.md a z), fun p hp => ⟨(r.tb p hp).1, (tabs1 p hp).ext fun b o e => by rw [upd_ne (ne_of_none e nf)]; exact e⟩, ncAll⟩
    have z := r.sl i sl e
    cases sl with
    | no => trivial
    | sh d => obtain ⟨v, e1, hp⟩ := z; exact ⟨v, e1, hp.mono out _ _⟩
    | ow d => obtain ⟨a, e1, m, o⟩ := z; exact ⟨a, e1, m, o.mono (same o) out⟩
    | bo d => obtain ⟨a, e1, m, o⟩ := z; exact ⟨a, e1, m, o.mono (same o) out⟩
  refine ⟨.ref f, _, J2, rfl, k (.ref f) _ M rel fr ?_⟩
  refine ⟨t, f, c', ⟨hj, hcaps⟩, rfl, fun u => ?_, upd_same, fun u => ?_, ?_⟩
  · exact r.dom nHf u
  · rcases codeOld with z | z
    · exact r.dom z u
    · exact r.nc c' u c' _ z
  · rw [upd_ne (fun z => by rw [z, nf] at code; cases code), ht]
    exact code
end
end Dn
end

section
set_option linter.all false
set_option autoImplicit false
set_option maxRecDepth 10000
/-! DnQ: closures called. -/
namespace Dn
open PySem PySem.Spec PyProof.Rows L2

/-- the object at f is lambda j's, with what it captured -/
structure ClAt (k : PySem.W.Frag) (C : Cl) (j : Nat) (f : Addr) (c' : Addr) (q : Str) (ws : List V) : Prop where
  ex : ∃ (t : Lam) (pm ctv : Value) (cl : List (Str × Addr)), C.lams j = some t ∧ t.qual = q ∧ k.lookup f = some (PySem.W.kla_obj "<lambda>" t.qual t.params t.body t.scope cl pm c' ctv) ∧ cl.map (·.1) = t.names ∧ (cl.map (·.2)).Nodup ∧ CellsK k cl ws
/-- lambda j runs as promised -/
structure LamG (P : Program) (w : World) (k : PySem.W.Frag) (mg : Str → Option Value) (base : Heap) (n : Nat) (C : Cl) (cf : CallF) (j : Nat) : Prop where
  run : ∀ (f c' : Addr) (q : Str) (ws : List V), ClAt k C j f c' q ws → ∀ (A : Around) (outer : List PySem.Env) (s : Shared) (H : Hp) (us : List Value) (vs : List V) (m : Nat) (Q : VK) (E : XK), A.guards = some [] → Room n A → Env0 P w k mg base A outer s H → Vals vs us → H c' = some (LamX.CodeO c' q) →
    spD ⟨k, C⟩ (cf j) (List.replicate m false) (vs ++ ws) H Q E → codeAny (model P w) A (.call (.ref f) ⟨us, []⟩) (fun r s' => (∃ u, r = .ok (.ret u) ∧ CE outer P w H s Q u s') ∨ ∃ e, r = .error e ∧ L2.CX P w outer H s E e s') s
theorem ClAt.keep {k : PySem.W.Frag} {C : Cl} {j : Nat} {f c' : Addr} {q : Str} {ws : List V} (h : ClAt k C j f c' q ws) : PySem.W.keepIn k (.ref f) = true := by
  obtain ⟨t, pm, ctv, cl, _, _, e, _⟩ := h.ex
  unfold PySem.W.keepIn
  dsimp only
  rw [e]
section
variable {X : Cx} {C : Cl} {W : WX} {cf : CallF}
theorem run_l {n j : Nat} {f c' : Addr} {q : Str} {ws : List V} {pins : List (Addr × Obj)} {σ : L2.St} {H : Hp} {s : Shared} {Q : VK} {E : XK} {us : List Value} {vs : List V} {m : Nat} (G : Gd X) (F : LamG X.prog X.w X.K X.mg X.base n C cf j) (hr : Room n X.A) (hc : ClAt X.K C j f c' q ws)
    (hx : ∀ e s', L2.CX X.prog X.w X.stack H s E e s' → X.xe e s') (I : Inv X pins σ H s) (r : Vals vs us) (code : H c' = some (LamX.CodeO c' q)) (h : spD (kb X C) (cf j) (List.replicate m false) (vs ++ ws) H Q E) : wpAny (model X.prog X.w) X.A (PySem.call (.ref f) us) (EP X pins σ Q) X.xe s := by
  refine wpAny_call (codeAny_mono (F.run f c' q ws hc X.A X.stack s H us vs m Q E G.gd hr I.env0 r code h) fun r s' hq => ?_)
  rcases hq with ⟨u, e, c⟩ | ⟨u, e, c⟩
  · subst e
    exact I.after c
  · subst e
    exact hx u s' c
theorem args_vals {K : KB} {A : AS} {σ : L2.St} {H : Hp} : ∀ {hs : List Ah} {vs : List V} {ds : List D}, AVs K A σ H hs vs → valsOf hs = some ds → Rps K H A ds vs ∧ refsOf hs = []
  | [], vs, ds, h, e => by
    cases e
    exact ⟨h, rfl⟩
  | .v d :: hs, vs, ds, h, e => by
    obtain ⟨v, ws, rfl, hp, h⟩ := h
    unfold valsOf at e
    obtain ⟨l, e1, rfl⟩ := Option.map_eq_some_iff.mp e
    obtain ⟨h1, h2⟩ := args_vals h e1
    exact ⟨⟨v, ws, rfl, hp, h1⟩, h2⟩
  | .r i :: hs, vs, ds, h, e => by cases e
  | .t d :: hs, vs, ds, h, e => h.elim
theorem ofRps {K : KB} {A : AS} {H : Hp} : ∀ {ds : List D} {vs : List V}, Rps K H A ds vs → ArgsOk K H A (List.replicate ds.length false) ds vs []
  | [], vs, h => by cases h; trivial
  | d :: ds, vs, ⟨v, r, e, h1, h2⟩ => by
    subst e
    exact ⟨h1, ofRps h2⟩
/-- what a closure's call asks, at its arguments -/
def CallAt (X : Cx) (C : Cl) (cf : CallF) (j : Nat) (f : Addr) (E : XK) (Q : VK) (vs : List V) (H : Hp) : Prop :=
  ∃ c' q ws m, ClAt X.K C j f c' q ws ∧ H c' = some (LamX.CodeO c' q) ∧ spD (kb X C) (cf j) (List.replicate m false) (vs ++ ws) H Q E
theorem evX_no {i : Nat} {as : As} {Γ : Env} (h : ∀ j cs, Γ[i]? ≠ some (.sh (.clo j cs))) : evX cf (.clv i as) Γ = .no := by
  unfold evX
  dsimp only
  split
  · rename_i j cs e
    exact absurd e (h j cs)
  · rfl
theorem evX_clv {i j : Nat} {cs : List D} {as : As} {Γ : Env} (h : Γ[i]? = some (.sh (.clo j cs))) : evX cf (.clv i as) Γ = match evAs cf as Γ with
      | .ok hs Γ1 => match valsOf hs with
        | some ds => match cf j (ds ++ cs) with
          | some (.ok d fr []) => .ok (d, fr) Γ1
          | some (.ex c d) => .ex c d Γ1
          | _ => .no
        | none => .no
      | .no => .no := by
  unfold evX
  dsimp only
  rw [h] <;> rfl
theorem clo_or (Γ : Env) (i : Nat) : (∃ j cs, Γ[i]? = some (.sh (.clo j cs))) ∨ ∀ j cs, Γ[i]? ≠ some (.sh (.clo j cs)) := by
  by_cases h : ∃ j cs, Γ[i]? = some (.sh (.clo j cs))
  · exact .inl h
  · exact .inr fun j cs e => h ⟨j, cs, e⟩
theorem clv_to {i : Nat} {as : As} : ∀ σ H Q, tX (kb X C) W (evX cf (.clv i as)) σ H Q → ∃ f j, σ[i]? = some (some (.ref f)) ∧ PySem.W.keepIn X.K (.ref f) = true ∧ tA (kb X C) (evAs cf as) σ H fun vs H1 => CallAt X C cf j f (fun cls d H' => W cls d σ H') Q vs H1 := by
  rintro σ H Q ⟨Z, M, Γ, r, q⟩
  rcases clo_or Γ i with ⟨j, cs, hsl⟩ | hno
  rotate_left
  · rw [evX_no hno] at q; exact q.elim
  rw [evX_clv hsl] at q
  obtain ⟨v, ev, t, f, c', pm, ctv, cl, ws, hj, rfl, lk, nc, code, nm, hnd2, hcells, hws⟩ := r.sl i _ hsl
  have hcl : ClAt X.K C j f c' t.qual ws := ⟨t, pm, ctv, cl, hj, rfl, lk, nm, hnd2, hcells⟩
  refine ⟨f, j, ev, hcl.keep, ?_⟩
  cases e1 : evAs cf as Γ with
  | no => rw [e1] at q; exact q.elim
  | ok hs Γ1 =>
    rw [e1] at q
    dsimp only at q
    refine ⟨Z, M, Γ, r, hs, Γ1, e1, fun vs H1 M1 r1 f1 av => ?_⟩
    have k1 := f1.out r.zm
    have code1 := k1 _ _ code nc
    have hws1 := Rps.mono k1 _ _ hws
    cases e2 : valsOf hs with
    | none => rw [e2] at q; exact q.elim
    | some ds =>
      rw [e2] at q
      dsimp only at q
      obtain ⟨hvs, hno⟩ := args_vals av e2
      have hR : RefsAt Γ1 σ (refsOf hs) [] := by rw [hno]; trivial
      have hnd : (refsOf hs).Nodup := by rw [hno]; exact .nil
      have hT : ∀ a, onT (kb X C) [] a → M1 a := fun a m => by
        rcases m with m | ⟨p, hp, rfl⟩
        · cases m
        · exact (r1.tb p hp).1
      have all : Rps (kb X C) H1 (un (onT (kb X C) []) (fun a => Z a ∨ (M1 a ∧ ¬ onT (kb X C) [] a))) (ds ++ cs) (vs ++ ws) := Rps.mono (fun a o e n => ⟨e, fun u => n (by
        rcases u with u | u | u
        · exact .inl (hT a u)
        · exact .inr u
        · exact .inl u.1)⟩) _ _ (hvs.app hws1)
      have z1 : ∀ a, (Z a ∨ (M1 a ∧ ¬ onT (kb X C) [] a)) → ¬ onT (kb X C) [] a := fun a z => by
        rcases z with z | z
        · exact fun m => r1.zm a z (hT a m)
        · exact z.2
      have z2 : ∀ a, (Z a ∨ (M1 a ∧ ¬ onT (kb X C) [] a)) → H1 a ≠ none := fun a z => z.elim (r1.zd a) fun z => r1.md a z.1
      have z3 : ∀ a, (Z a ∨ (M1 a ∧ ¬ onT (kb X C) [] a)) → ∀ (_ : Addr) (q : Heap → Prop), H1 a ≠ some (.ext q) := fun a z => r1.nc a (z.elim .inr fun z => .inl z.1)
      have pb : putBack hs [] Γ1 = some Γ1 := no_refs av (by rw [hno]; rfl)
      refine ⟨c', t.qual, ws, (ds ++ cs).length, hcl, code1.1, ?_⟩
      cases e3 : cf j (ds ++ cs) with
      | none => rw [e3] at q; exact q.elim
      | some oc =>
        rw [e3] at q
        refine ⟨_, ds ++ cs, [], oc, e3, ofRps all, .nil, z1, z2, fun p hp => (r1.tb p hp).2, z3, ?_⟩
        cases oc with
        | ok d fr os =>
          cases os with
          | cons a b => exact q.elim
          | nil =>
            intro v H' M' p ho hv
            obtain ⟨r2, f2, ap⟩ := after_call r1 av hR hT hnd pb p ho
            exact q v H' _ r2 (f1.trans f2) (val_back ap hv)
        | ex c d =>
          intro H' M' dx p hx
          obtain ⟨r2, f2, ap⟩ := after_call r1 av hR hT hnd pb p trivial
          exact q H' _ dx r2 (f1.trans f2) (exc_back hx)
/-- the same where nothing is raised -/
theorem clv_ok {i : Nat} {as : As} : ∀ σ H Q, tE (kb X C) (evE cf (.clv i as)) σ H Q → tX (kb X C) (fun _ _ _ _ => False) (evX cf (.clv i as)) σ H Q := by
  rintro σ H Q ⟨Z, M, Γ, r, w, Γ', e, q⟩
  refine ⟨Z, M, Γ, r, ?_⟩
  unfold evE at e
  split at e
  rotate_left
  · cases e
  rename_i j cs hsl
  rw [evX_clv hsl]
  obtain ⟨hs, Γ1, e1, e⟩ := Res.bind_ok e
  rw [e1]
  dsimp only
  split at e
  rotate_left
  · cases e
  rename_i ds e2
  try rw [e2]
  try dsimp only
  split at e
  rotate_left
  · cases e
  rename_i d fr e3
  cases e
  try rw [e3]
  exact q
variable {n i : Nat} {a : Expr} {es : List Expr} {x : Str} {p pos : Pos} {as : As}
theorem x_clv (G : Gd X) (tk : Takes X W) (hr : Room n X.A) (HL : ∀ j, LamG X.prog X.w X.K X.mg X.base n C cf j) (ha : PA X (a :: es) (tA (kb X C) (evAs cf as))) (hN : X.N[i]? = some x := by rfl) (hv : Vis X.env.scope x := by first | exact .inl rfl | exact .inr (.inl rfl) | exact .inr (.inr rfl))
    (hs : noStar a = true := by rfl) (hpl : (backTo pos (starEach es X.env)).any (·.1) = false := by rfl) (hdb : (x == ("__debug__" : Str)) = false := by decide) (hcd : (x == ("__classdict__" : Str)) = false := by decide) :
    PE X (.Call (.Name x p) (a :: es) [] pos) (tX (kb X C) W (evX cf (.clv i as))) := by
  refine ⟨fun pins s σ H Q I h => ?_⟩
  obtain ⟨f, j, hsl, hk, ht⟩ := clv_to σ H Q h
  refine wpAny_Call_Name_kw (thn ((pe_var (pos := p) (i := i) hN hv hdb hcd).run pins s σ H (fun v H1 => v = .ref f ∧ H1 = H) I ⟨.ref f, hsl, rfl, rfl⟩) fun u s1 ⟨v, H1, I1, r1, q1⟩ => ?_)
  obtain ⟨rfl, rfl⟩ := q1
  cases r1
  refine PySem.W.callWith_K (h₀ := X.base) I.ok.mod.kin hk (thn (ha.run pos pins s1 σ _ _ I1 ht) fun us s2 ⟨vs, H2, I2, r, q⟩ => ⟨I2.kIn, ?_⟩) (star1 hs) hpl
  obtain ⟨c', qn, ws, m, hcl, code, hsp⟩ := q
  exact run_l G (HL j) hr hcl (wx_cx tk I2) I2 r code hsp
theorem x_clv0 (G : Gd X) (tk : Takes X W) (hr : Room n X.A) (HL : ∀ j, LamG X.prog X.w X.K X.mg X.base n C cf j) (hN : X.N[i]? = some x := by rfl) (hv : Vis X.env.scope x := by first | exact .inl rfl | exact .inr (.inl rfl) | exact .inr (.inr rfl))
    (hdb : (x == ("__debug__" : Str)) = false := by decide) (hcd : (x == ("__classdict__" : Str)) = false := by decide) :
    PE X (.Call (.Name x p) [] [] pos) (tX (kb X C) W (evX cf (.clv i .nil))) := by
  refine ⟨fun pins s σ H Q I h => ?_⟩
  obtain ⟨f, j, hsl, hk, ht⟩ := clv_to σ H Q h
  refine wpAny_Call_Name_kw (thn ((pe_var (pos := p) (i := i) hN hv hdb hcd).run pins s σ H (fun v H1 => v = .ref f ∧ H1 = H) I ⟨.ref f, hsl, rfl, rfl⟩) fun u s1 ⟨v, H1, I1, r1, q1⟩ => ?_)
  obtain ⟨rfl, rfl⟩ := q1
  cases r1
  obtain ⟨Z, M, Γ, r, hs, Γ', e, q⟩ := ht
  cases e
  obtain ⟨c', qn, ws, m, hcl, code, hsp⟩ := q [] _ M r Fr.refl rfl
  refine PySem.W.callWith_K0 I1.kIn hk ?_
  exact run_l (us := []) G (HL j) hr hcl (wx_cx tk I1) I1 .nil code hsp
theorem takes_no : Takes X (fun _ _ _ _ => False) := fun _ _ ⟨_, _, _, _, _, _, _, _, _, _, _, _, _, _, _, _, z⟩ => z.elim
theorem e_clv (G : Gd X) (hr : Room n X.A) (HL : ∀ j, LamG X.prog X.w X.K X.mg X.base n C cf j) (ha : PA X (a :: es) (tA (kb X C) (evAs cf as))) (hN : X.N[i]? = some x := by rfl) (hv : Vis X.env.scope x := by first | exact .inl rfl | exact .inr (.inl rfl) | exact .inr (.inr rfl))
    (hs : noStar a = true := by rfl) (hpl : (backTo pos (starEach es X.env)).any (·.1) = false := by rfl) (hdb : (x == ("__debug__" : Str)) = false := by decide) (hcd : (x == ("__classdict__" : Str)) = false := by decide) :
    PE X (.Call (.Name x p) (a :: es) [] pos) (tE (kb X C) (evE cf (.clv i as))) := PE.le (x_clv G takes_no hr HL ha hN hv hs hpl hdb hcd) clv_ok
end
/-! ### a lambda's body -/
/-- a lambda's frame, at its entry -/
abbrev cxL (P : Program) (w : World) (K : PySem.W.Frag) (mg : Str → Option Value) (base : Heap) (N : List Str) (qual : Str) (scope : Scope) (f c' : Addr) (cl : List (Str × Addr)) (A : Around) (outer : List PySem.Env) (s : Shared) (H : Hp) (E : XK) : Cx :=
  { cxOf (L2.CX P w) P w K mg base N qual scope f (.ref c') A outer s H E with
    A := A.deeper (PySem.W.envX qual scope s.heap.objs.size f (.ref c') cl), env := PySem.W.envX qual scope s.heap.objs.size f (.ref c') cl, stack := PySem.W.envX qual scope s.heap.objs.size f (.ref c') cl :: outer, fn := fun _ => false,
    xe := fun e s' => wpAny (model P w) (A.deeper (PySem.W.envX qual scope s.heap.objs.size f (.ref c') cl)) (leaving (PySem.W.envX qual scope s.heap.objs.size f (.ref c') cl) e) (fun _ s'' => L2.CX P w outer H s E e s'') (fun e' s'' => L2.CX P w outer H s E e' s'') s' }
/-- a lambda's names: parameters, captured ones -/
structure LamScope (ps names : List Str) (sc : Scope) : Prop where
  kind : sc.kind = .function
  co : sc.isCoroutine = false
  gen : sc.isGenerator = false
  nd : (ps ++ names).Nodup
  nocell : ∀ y ∈ sc.names, y.2 ≠ .cell
  par : ∀ x ∈ ps, sc.names.lookup x = some .local
  cap : ∀ y ∈ sc.names, y.2 = .free → y.1 ∈ names
  capF : ∀ x ∈ names, sc.names.lookup x = some .free
theorem cells_at {k : PySem.W.Frag} : ∀ {cl : List (Str × Addr)} {ws : List V} {i : Nat} {y : Str} {v : V}, (cl.map (·.1)).Nodup → CellsK k cl ws → (cl.map (·.1))[i]? = some y → ws[i]? = some v → ∃ c o u, cl.lookup y = some c ∧ k.lookup c = some o ∧ o.data = .cell (some u) ∧ RelV v u
  | [], [], i, y, v, nd, h, e1, e2 => by simp at e1
  | [], _ :: _, i, y, v, nd, h, e1, e2 => h.elim
  | _ :: _, [], i, y, v, nd, h, e1, e2 => h.elim
  | p :: cl, w :: ws, 0, y, v, nd, h, e1, e2 => by
    obtain ⟨⟨o, u, h1, h2, h3⟩, _⟩ := h
    simp at e1 e2
    subst e1 e2
    exact ⟨p.2, o, u, by rw [List.lookup_cons]; simp, h1, h2, h3⟩
  | p :: cl, w :: ws, i + 1, y, v, nd, h, e1, e2 => by
    obtain ⟨n1, n2⟩ := List.nodup_cons.mp (show (p.1 :: cl.map (·.1)).Nodup from nd)
    have e1' : (cl.map (·.1))[i]? = some y := by simpa using e1
    obtain ⟨c, o, u, h1, h2⟩ := cells_at n2 h.2 e1' (by simpa using e2)
    refine ⟨c, o, u, ?_, h2⟩
    rw [List.lookup_cons]
    have : (y == p.1) = false := beq_eq_false_iff_ne.mpr fun z => n1 (by rw [← z]; exact List.mem_of_getElem? e1')
    rw [this]
    exact h1
theorem cells_ex {k : PySem.W.Frag} : ∀ {cl : List (Str × Addr)} {ws : List V} {y : Str} {c : Addr}, CellsK k cl ws → cl.lookup y = some c → ∃ o u, k.lookup c = some o ∧ o.data = .cell (some u)
  | [], [], y, c, h, e => by simp at e
  | [], _ :: _, y, c, h, e => h.elim
  | _ :: _, [], y, c, h, e => h.elim
  | p :: cl, w :: ws, y, c, h, e => by
    rw [List.lookup_cons] at e
    split at e
    · cases e
      obtain ⟨⟨o, u, h1, h2, _⟩, _⟩ := h
      exact ⟨o, u, h1, h2⟩
    · exact cells_ex h.2 e
theorem rev_zip {ps : List Str} {us : List Value} {i : Nat} {y : Str} {u : Value} (nd : ps.Nodup) (h1 : ps[i]? = some y) (h2 : us[i]? = some u) : (ps.zip us).reverse.lookup y = some u := by
  have key : ∀ (l : List (Str × Value)), (l.map (·.1)).Nodup → (y, u) ∈ l → l.lookup y = some u := by
    intro l
    induction l with
    | nil => intro _ m; cases m
    | cons p l ih =>
      intro n m
      obtain ⟨n1, n2⟩ := List.nodup_cons.mp (show (p.1 :: l.map (·.1)).Nodup from n)
      rw [List.lookup_cons]
      rcases List.mem_cons.mp m with rfl | m
      · simp
      · have : (y == p.1) = false := beq_eq_false_iff_ne.mpr fun z => n1 (by rw [← z]; exact List.mem_map.mpr ⟨(y, u), m, rfl⟩)
        rw [this]
        exact ih n2 m
  refine key _ ?_ ?_
  · rw [List.map_reverse]
    have sub : ∀ (l : List Str) (m : List Value), ((l.zip m).map (·.1)).Sublist l := by
      intro l
      induction l with
      | nil => intro m; exact List.Sublist.slnil
      | cons a l ih =>
        intro m
        cases m with
        | nil => exact List.nil_sublist _
        | cons b m => exact (ih m).cons_cons a
    have n2 : ((ps.zip us).map (·.1)).Nodup := nd.sublist (sub ps us)
    exact List.pairwise_reverse.mpr (n2.imp fun h => Ne.symm h)
  · rw [List.mem_reverse]
    refine List.mem_of_getElem? (i := i) ?_
    rw [List.getElem?_zip_eq_some]
    exact ⟨h1, h2⟩
section
variable {P : Program} {w : World} {k : PySem.W.Frag} {C : Cl} {mg : Str → Option Value} {base : Heap} {n : Nat} {cf : CallF} {j : Nat} {t : Lam} {ps : List Str}
/-- a lambda's frame, entered -/
theorem inv_lam {A : Around} {outer : List PySem.Env} {s : Shared} {H : Hp} {E : XK} {f c' : Addr} {cl : List (Str × Addr)} {us : List Value} {vs ws : List V} {h1 : Heap} {tk : Nat} (S : LamScope ps t.names t.scope) (hd : A.handled = none) (e0 : Env0 P w k mg base A outer s H) (hv : vs.length = ps.length) (hw : ws.length = t.names.length) (r : Vals vs us)
    (nm : cl.map (·.1) = t.names) (nd : (cl.map (·.2)).Nodup) (cells : CellsK k cl ws) (ns : h1.Ns s.heap.objs.size fun y => (ps.zip us).reverse.lookup y) (kp : ∀ b o, s.heap.get? b = some o → h1.get? b = some o) :
    Inv (cxL P w k mg base (ps ++ t.names) t.qual t.scope f c' cl A outer s H E) [] (L2.start (ps ++ t.names) (vs ++ ws)) H { s with heap := h1, toks := tk } := by
  have ins : k.In s.heap := e0.mod.kin.keeps fun b o e => (e0.bs b o e).1
  have ndN : (cl.map (·.1)).Nodup := by rw [nm]; exact (List.nodup_append.mp S.nd).2.1
  have look : ∀ {y}, y ∈ t.names → ∃ c, cl.lookup y = some c := fun {y} m => by
    rw [← nm] at m
    obtain ⟨p, hp, e⟩ := List.mem_map.mp m
    exact mem_lookup (show (y, p.2) ∈ cl by rw [← e]; exact hp)
  have inCl : ∀ {y c}, cl.lookup y = some c → (y, c) ∈ cl := fun {y c} e => PySem.mem_of_lookup e
  have noA : ∀ b : Addr, b ∉ (cxL P w k mg base (ps ++ t.names) t.qual t.scope f c' cl A outer s H E).ex := fun b z => absurd (show b ∈ ([] : List Addr) from z) (by simp)
  have slen : (L2.start (ps ++ t.names) (vs ++ ws)).length = (ps ++ t.names).length := by
    unfold L2.start
    rw [List.length_append, List.length_map, List.length_replicate, List.length_append, List.length_append, hv, hw]
    omega
  have sget : ∀ {i : Nat} {v : V}, (L2.start (ps ++ t.names) (vs ++ ws))[i]? = some (some v) → (vs ++ ws)[i]? = some v := fun {i v} e => by
    unfold L2.start at e
    have e0 : (ps ++ t.names).length - (vs ++ ws).length = 0 := by rw [List.length_append, List.length_append, hv, hw]; omega
    rw [e0, List.replicate_zero, List.append_nil, List.getElem?_map] at e
    obtain ⟨v', e1, e2⟩ := Option.map_eq_some_iff.mp e
    cases e2
    exact e1
  refine ⟨⟨e0.mod, S.kind, rfl, rfl, Nat.le_refl _, fun y z c e1 e2 => ?_, fun y hy => ?_, (fun y c z _ => by cases z), fun _ => hd, Around.frames_deeper e0.frames, .inr ⟨rfl, rfl⟩, fun b z => absurd z (noA b), e0.bs, e0.bsz, fun b _ _ => noA b, fun b z => absurd z (noA b), e0.funs, e0.frf⟩,
    rfl, e0.bare, Un.kept kp, ⟨_, ns, fun i y v e1 e2 e3 => ?_⟩, fun y c e => ?_, e0.hok.fresh (Nat.le_refl _), fun y c e => ?_, fun p hp => absurd (show p ∈ ([] : List (Addr × Obj)) from hp) (by simp), e0.hok.kept kp, slen⟩
  · have m1 := inCl (show cl.lookup y = some c from e1)
    have m2 := inCl (show cl.lookup z = some c from e2)
    exact snd_inj nd m1 m2
  · have hy : t.scope.names.lookup y = some .cell ∨ t.scope.names.lookup y = some .free := hy
    rcases hy with hy | hy
    · exact absurd rfl (S.nocell _ (PySem.mem_of_lookup hy))
    · exact look (S.cap _ (PySem.mem_of_lookup hy) rfl)
  · have e1 : (ps ++ t.names)[i]? = some y := e1
    have ev := sget e2
    by_cases hi : i < ps.length
    · rw [List.getElem?_append_left hi] at e1
      rw [List.getElem?_append_left (by omega)] at ev
      obtain ⟨u, hu, rv⟩ := r.get ev
      exact ⟨u, rv, .inl ⟨S.par y (List.mem_of_getElem? e1), rev_zip (List.nodup_append.mp S.nd).1 e1 hu⟩⟩
    · rw [List.getElem?_append_right (by omega)] at e1
      rw [List.getElem?_append_right (by omega), hv] at ev
      rw [← nm] at e1
      obtain ⟨c, o, u, h1, h2, h3, h4⟩ := cells_at ndN cells e1 ev
      exact ⟨u, h4, .inr ⟨.inr (S.capF y (by rw [← nm]; exact List.mem_of_getElem? e1)), c, h1, o, kp _ _ (ins _ _ h2), h3⟩⟩
  · obtain ⟨o, u, h1, h2⟩ := cells_ex cells (show cl.lookup y = some c from e)
    exact ⟨_, o, kp _ _ (ins _ _ h1), h2⟩
  · obtain ⟨o, u, h1, h2⟩ := cells_ex cells (show cl.lookup y = some c from e)
    exact (e0.bs c o (e0.mod.kin c o h1)).2
where
  snd_inj : ∀ {l : List (Str × Addr)} {y z : Str} {c : Addr}, (l.map (·.2)).Nodup → (y, c) ∈ l → (z, c) ∈ l → y = z
    | [], y, z, c, n, m, _ => by cases m
    | p :: l, y, z, c, n, m1, m2 => by
      obtain ⟨n1, n2⟩ := List.nodup_cons.mp (show (p.2 :: l.map (·.2)).Nodup from n)
      rcases List.mem_cons.mp m1 with rfl | k1
      · rcases List.mem_cons.mp m2 with e | k2
        · cases e; rfl
        · exact absurd (show c ∈ l.map (·.2) from List.mem_map.mpr ⟨(z, c), k2, rfl⟩) n1
      · rcases List.mem_cons.mp m2 with rfl | k2
        · exact absurd (show c ∈ l.map (·.2) from List.mem_map.mpr ⟨(y, c), k1, rfl⟩) n1
        · exact snd_inj n2 k1 k2
theorem of_ret {K : KB} {W : WX} {B : List Nat} {e : E} {D : Ends} {σ : L2.St} {H : Hp} (h : tS K W B (evSs cf (.cons (.ret e) .nil)) D σ H) : Eqs B σ σ → tE K (evE cf e) σ H D.rt := fun z => by
  obtain ⟨Z, M, Γ, r, q⟩ := h
  have q : SEnd K W Z B D σ H M (match evS cf (.ret e) Γ with | .nx Γ1 => evSs cf .nil Γ1 | z => z) := q
  unfold evS at q
  cases e1 : evE cf e Γ with
  | no => rw [e1] at q; exact q.elim
  | ok x Γ1 => rw [e1] at q; exact ⟨Z, M, Γ, r, x, Γ1, e1, fun v H1 M1 r1 f1 rv => q v σ H1 M1 r1 f1 z rv⟩
theorem of_xret {K : KB} {W : WX} {B : List Nat} {x : Xc} {D : Ends} {σ : L2.St} {H : Hp} (h : tS K W B (evSs cf (.cons (.xret x) .nil)) D σ H) : Eqs B σ σ → tX K W (evX cf x) σ H D.rt := fun z => by
  obtain ⟨Z, M, Γ, r, q⟩ := h
  have q : SEnd K W Z B D σ H M (match evS cf (.xret x) Γ with | .nx Γ1 => evSs cf .nil Γ1 | z => z) := q
  unfold evS at q
  refine ⟨Z, M, Γ, r, ?_⟩
  cases e1 : evX cf x Γ with
  | no => rw [e1] at q; exact q
  | ok y Γ1 => rw [e1] at q; exact fun v H1 M1 r1 f1 rv => q v σ H1 M1 r1 f1 z rv
  | ex c d Γ1 => rw [e1] at q; exact fun H1 M1 dx r1 f1 hx => q σ H1 M1 dx r1 f1 z hx
/-- lambda j, by its body's rule -/
theorem lam_g {df : Df} (hj : C.lams j = some t) (S : LamScope ps t.names t.scope) (hN : (ps ++ t.names).length = df.slots) (hp : df.np = df.slots) (hms : df.modes = List.replicate df.np false)
    (hbind : ∀ (q : Str) (cl : List (Str × Addr)) (pm cv ctv : Value) (us : List Value), us.length = ps.length → bindArgs (PySem.W.kla_fn "<lambda>" q t.params t.body t.scope cl pm cv ctv) ⟨us, []⟩ = pure (ps.zip us))
    (hbody : ∀ (f c' : Addr) (cl : List (Str × Addr)) (A : Around) (outer : List PySem.Env) (s : Shared) (H : Hp) (E : XK), Gd (cxL P w k mg base (ps ++ t.names) t.qual t.scope f c' cl A outer s H E) → Takes (cxL P w k mg base (ps ++ t.names) t.qual t.scope f c' cl A outer s H E) (wE E) → Room n (cxL P w k mg base (ps ++ t.names) t.qual t.scope f c' cl A outer s H E).A →
      ∃ te, PE (cxL P w k mg base (ps ++ t.names) t.qual t.scope f c' cl A outer s H E) t.body te ∧ ∀ (σ : L2.St) (Q : VK) (D : Ends), D.rt = Q → tS ⟨k, C⟩ (wE E) (refIx 0 df.modes) (evSs cf df.body) D σ H → te σ H Q) : LamG P w k mg base (n + 1) C (fun _ => runDf cf df) j := by
  refine ⟨fun f c' q ws hc A outer s H us vs m Q E hgd hr e0 r code h => ?_⟩
  obtain ⟨t', pm, ctv, cl, hj', rfl, lk, nm, nd, cells⟩ := hc.ex
  rw [hj] at hj'
  cases hj'
  have ins : k.In s.heap := e0.mod.kin.keeps fun b o e => (e0.bs b o e).1
  have nol : s.heap.NoLimit := e0.mod.nolimit.keeps fun b o e => (e0.bs b o e).1
  have lenW : ws.length = t.names.length := by
    rw [← nm, List.length_map]
    exact cells_len cells
  have h := h
  have lens : (vs ++ ws).length = m ∧ m = df.np := by
    obtain ⟨Z, ds, rs, oc, e, ha, _⟩ := h
    obtain ⟨l1, l2⟩ := ha.len
    rw [List.length_replicate] at l1 l2
    refine ⟨l2, ?_⟩
    have e1 := (run_core e).1
    unfold runCore at e1
    cases e2 : inSl df.modes ds with
    | none => rw [e2] at e1; cases e1
    | some Γ0 =>
      have l3 := inSl_len2 e2
      rw [hms, List.length_replicate] at l3
      omega
  have hm : List.replicate m false = df.modes := by rw [hms, lens.2]
  have lenV : vs.length = ps.length := by
    have e1 := lens.1
    rw [List.length_append] at e1 hN
    omega
  have lenU : us.length = ps.length := by rw [← r.length]; exact lenV
  obtain ⟨⟨oc, vv, tk, hoc, hdc, hvc⟩, _, _⟩ := e0.hok c' _ code
  refine PySem.W.kla_callFunE hr.depth (ins _ _ lk) rfl S.co S.gen rfl ⟨c', oc, vv, tk, rfl, hoc, hdc, hvc⟩ ?_
  rw [hbind _ _ _ _ _ us lenU]
  refine wpAny_pure (wpAny_newFunctionEnv S.nocell (fun y hy => S.par _ (List.of_mem_zip hy).1) (fun h1 hns hsb => ⟨nol.fresh _ hsb, ?_⟩) S.kind)
  show codeAny _ _ (.expr t.body (PySem.W.envX t.qual t.scope s.heap.objs.size f (.ref c') cl)) _ _
  have kp : ∀ b o, s.heap.get? b = some o → h1.get? b = some o := fun b o e => hsb.extBut b o (Nat.ne_of_lt (Heap.lt_size e)) (Heap.get?_push_of_some _ e)
  have I := inv_lam (P := P) (w := w) (mg := mg) (base := base) (f := f) (c' := c') (E := E) (tk := s.toks + (ps.zip us).length) S hr.hd e0 lenV lenW r nm nd cells hns kp
  have rm := hr.deeper (PySem.W.envX t.qual t.scope s.heap.objs.size f (.ref c') cl)
  have G : Gd (cxL P w k mg base (ps ++ t.names) t.qual t.scope f c' cl A outer s H E) := ⟨rfl, rm.units, hgd, S.nd, passes_of rfl⟩
  obtain ⟨te, ht, hq⟩ := hbody f c' cl A outer s H E G (takes_of rfl rfl rfl rfl) rm
  rw [hm] at h
  have hb := body_at (N := ps ++ t.names) (ps := ps ++ t.names) hN (by rw [hN, hp]) (by rw [hms, List.length_replicate]) (Nat.le_of_eq hp) h
  have run := hq _ Q _ rfl hb
  refine PySem.W.kla_codeExpr (wpAny_mono (ht.run [] _ _ H Q I run) ?_ ?_)
  · rintro v s' ⟨v', H', J, rv, q⟩
    exact .inl ⟨v, rfl, v', H', J.os, J.bare, J.base, J.hok, rv, q⟩
  · intro e s' hs
    exact wpAny_mono hs (fun _ s'' h => .inr ⟨e, rfl, h⟩) fun e' s'' h => .inr ⟨e', rfl, h⟩
where
  cells_len : ∀ {cl : List (Str × Addr)} {ws : List V}, CellsK k cl ws → ws.length = cl.length
    | [], [], _ => rfl
    | [], _ :: _, h => h.elim
    | _ :: _, [], h => h.elim
    | _ :: cl, _ :: ws, h => congrArg Nat.succ (cells_len h.2)
  inSl_len2 : ∀ {ms : List Bool} {ds : List D} {Γ : Env}, inSl ms ds = some Γ → ds.length = ms.length
    | [], [], Γ, h => rfl
    | [], _ :: _, Γ, h => by cases h
    | _ :: _, [], Γ, h => by cases h
    | m :: ms, d :: ds, Γ, h => by
      unfold inSl at h
      obtain ⟨r, e, _⟩ := Option.map_eq_some_iff.mp h
      exact congrArg Nat.succ (inSl_len2 e)
end
end Dn
end

section
set_option linter.all false
set_option autoImplicit false
set_option maxRecDepth 10000
/-! DnR: lambdas handed on: the written part grows by them for the call. -/
namespace Dn
open PySem PySem.Spec PyProof.Rows L2

/-- what may be put to the written part: lambdas' function objects, cells -/
def Xtra (o : Obj) : Prop := (∃ fd, o.data = .func fd ∧ fd.name = "<lambda>") ∨ ∃ v, o.data = .cell v
theorem lookup_app {α : Type} {a : Addr} : ∀ {K : List (Addr × α)} {M : List (Addr × α)}, (K ++ M).lookup a = match K.lookup a with
    | some o => some o
    | none => M.lookup a
  | [], M => rfl
  | p :: K, M => by
    rw [List.cons_append, List.lookup_cons, List.lookup_cons]
    cases a == p.1 with
    | true => rfl
    | false => exact lookup_app
structure KExt (k k' : PySem.W.Frag) : Prop where
  lk : ∀ a o, k.lookup a = some o → k'.lookup a = some o
  nw : ∀ a o, k'.lookup a = some o → k.lookup a = some o ∨ Xtra o
  tb : tabs k' = tabs k
  ms : mks k' = mks k
theorem KExt.refl (k : PySem.W.Frag) : KExt k k := ⟨fun _ _ h => h, fun _ _ h => .inl h, rfl, rfl⟩
theorem KExt.trans {a b c : PySem.W.Frag} (x : KExt a b) (y : KExt b c) : KExt a c := ⟨fun p o h => y.lk p o (x.lk p o h), fun p o h => (y.nw p o h).elim (x.nw p o) .inr, y.tb.trans x.tb, y.ms.trans x.ms⟩
theorem tabOf_app {k m : PySem.W.Frag} (h : ∀ p ∈ m, Xtra p.2) (cd : Value) : tabOf (k ++ m) cd = tabOf k cd := by
  cases cd with
  | ref c =>
    unfold tabOf
    dsimp only
    rw [lookup_app]
    cases e : k.lookup c with
    | some o => rfl
    | none =>
      dsimp only
      cases e2 : m.lookup c with
      | none => rfl
      | some o =>
        obtain ⟨p, hp, rfl⟩ := lookup_in e2
        rcases h p hp with ⟨fd, z, _⟩ | ⟨v, z⟩
        · dsimp only; rw [z]
        · dsimp only; rw [z]
  | _ => rfl
theorem fm_app {α β : Type} (f : α → Option β) (l m : List α) (h : ∀ p ∈ m, f p = none) : (l ++ m).filterMap f = l.filterMap f := by
  rw [List.filterMap_append]
  have : m.filterMap f = [] := by
    rw [List.filterMap_eq_nil_iff]
    exact h
  rw [this, List.append_nil]
theorem fm_congr {α β : Type} {f g : α → Option β} : ∀ {l : List α}, (∀ p ∈ l, f p = g p) → l.filterMap f = l.filterMap g
  | [], _ => rfl
  | p :: l, h => by
    rw [List.filterMap_cons, List.filterMap_cons, h p List.mem_cons_self, fm_congr fun q hq => h q (List.mem_cons_of_mem _ hq)]
theorem ext_app (k m : PySem.W.Frag) (h : ∀ p ∈ m, Xtra p.2) : KExt k (k ++ m) := by
  refine ⟨fun a o e => by rw [lookup_app, e], fun a o e => ?_, ?_, ?_⟩
  · rw [lookup_app] at e
    cases e1 : k.lookup a with
    | some o1 => rw [e1] at e; exact .inl e
    | none =>
      rw [e1] at e
      obtain ⟨p, hp, rfl⟩ := lookup_in e
      exact .inr (h p hp)
  · have e1 : tabs (k ++ m) = (k ++ m).filterMap fun p => match p.2.data with
      | .func fd => if (fd.name == ("<lambda>" : Str)) then none else (tabOf k fd.code).map fun P => (P, fd.qualname ++ ".<locals>." ++ "<lambda>")
      | _ => none := by
      unfold tabs
      refine fm_congr fun p hp => ?_
      cases p.2.data with
      | func fd => dsimp only; rw [tabOf_app h]
      | _ => rfl
    rw [e1]
    refine fm_app _ k m fun p hp => ?_
    rcases h p hp with ⟨fd, z, n⟩ | ⟨v, z⟩
    · rw [z]; dsimp only; rw [n]; rfl
    · rw [z]
  · have e1 : mks (k ++ m) = (k ++ m).filterMap fun p => match p.2.data with
      | .func fd => if (fd.name == ("<lambda>" : Str)) then none else match fd.code with
        | .ref c => (tabOf k (.ref c)).map fun P => (c, P)
        | _ => none
      | _ => none := by
      unfold mks
      refine fm_congr fun p hp => ?_
      cases p.2.data with
      | func fd =>
        dsimp only
        cases fd.code with
        | ref c => dsimp only; rw [tabOf_app h]
        | _ => rfl
      | _ => rfl
    rw [e1]
    refine fm_app _ k m fun p hp => ?_
    rcases h p hp with ⟨fd, z, n⟩ | ⟨v, z⟩
    · rw [z]; dsimp only; rw [n]; rfl
    · rw [z]
section
variable {k k' : PySem.W.Frag} {C : Cl} {H : Hp} {A : AS}
theorem KT.ext (x : KExt k k') {a : Addr} {vs : List V} (h : KT k a vs) : KT k' a vs := by
  obtain ⟨o, its, n, e, r⟩ := h
  exact ⟨o, its, n, x.lk _ _ e, r⟩
theorem KT.back (x : KExt k k') {a : Addr} {vs : List V} (h : KT k' a vs) : KT k a vs := by
  obtain ⟨o, its, n, e, h1, h2, r⟩ := h
  rcases x.nw _ _ e with z | ⟨fd, z, _⟩ | ⟨v, z⟩
  · exact ⟨o, its, n, z, h1, h2, r⟩
  · rw [z] at h2; cases h2
  · rw [z] at h2; cases h2
theorem CellsK.ext (x : KExt k k') : ∀ {cl : List (Str × Addr)} {ws : List V}, CellsK k cl ws → CellsK k' cl ws
  | [], [], _ => trivial
  | [], _ :: _, h => h.elim
  | _ :: _, [], h => h.elim
  | p :: cl, w :: ws, ⟨⟨o, u, e, r⟩, h⟩ => ⟨⟨o, u, x.lk _ _ e, r⟩, CellsK.ext x h⟩
theorem ga_ext (x : KExt k k') (hm : (k.lookup mainGlobals).isSome = true) (c : Str) : He.ga k' c = He.ga k c := by
  obtain ⟨o, e⟩ := Option.isSome_iff_exists.mp hm
  unfold He.ga PySem.W.nsIn
  rw [e, x.lk _ _ e]
mutual
theorem Rp.ext (x : KExt k k') (hm : (k.lookup mainGlobals).isSome = true) : ∀ (d : D) (v : V), Rp ⟨k, C⟩ H A d v → Rp ⟨k', C⟩ H A d v
  | .non, v, r => r
  | .bl b, v, r => r
  | .int i, v, r => r
  | .str s, v, r => r
  | .tup xs, v, ⟨a, vs, e, r, q⟩ => ⟨a, vs, e, r.imp id (KT.ext x), Rps.ext x hm xs vs q⟩
  | .lst xs, v, ⟨a, vs, e, na, r, q⟩ => ⟨a, vs, e, na, r, Rps.ext x hm xs vs q⟩
  | .fz xs, v, ⟨a, o, vs, e, na, r, q⟩ => ⟨a, o, vs, e, na, r, Rps.ext x hm xs vs q⟩
  | .dct ks xs, v, ⟨a, kvs, e, na, r, z, q⟩ => ⟨a, kvs, e, na, r, z, Rps.ext x hm xs _ q⟩
  | .exc c d, v, ⟨a, dx, w, e, na, r, nd, z, q⟩ => ⟨a, dx, w, e, na, by rw [ga_ext x hm]; exact r, nd, z, Rp.ext x hm d w q⟩
  | .yng j caps, v, r => r
  | .clo j cs, v, ⟨t, f, c2, pm, ctv, cl, ws, l, e, r, nc, q, m, nd, z, p⟩ => ⟨t, f, c2, pm, ctv, cl, ws, l, e, x.lk _ _ r, nc, q, m, nd, z.ext x, Rps.ext x hm cs ws p⟩
theorem Rps.ext (x : KExt k k') (hm : (k.lookup mainGlobals).isSome = true) : ∀ (ds : List D) (vs : List V), Rps ⟨k, C⟩ H A ds vs → Rps ⟨k', C⟩ H A ds vs
  | [], vs, r => r
  | d :: ds, vs, ⟨v, r, e, h1, h2⟩ => ⟨v, r, e, Rp.ext x hm d v h1, Rps.ext x hm ds r h2⟩
end
mutual
theorem Rp.unext (x : KExt k k') (hm : (k.lookup mainGlobals).isSome = true) : ∀ (d : D) (v : V), noC d = true → Rp ⟨k', C⟩ H A d v → Rp ⟨k, C⟩ H A d v
  | .non, v, n, r => r
  | .bl b, v, n, r => r
  | .int i, v, n, r => r
  | .str s, v, n, r => r
  | .tup xs, v, n, ⟨a, vs, e, r, q⟩ => ⟨a, vs, e, r.imp id (KT.back x), Rps.unext x hm xs vs n q⟩
  | .lst xs, v, n, ⟨a, vs, e, na, r, q⟩ => ⟨a, vs, e, na, r, Rps.unext x hm xs vs n q⟩
  | .fz xs, v, n, ⟨a, o, vs, e, na, r, q⟩ => ⟨a, o, vs, e, na, r, Rps.unext x hm xs vs n q⟩
  | .dct ks xs, v, n, ⟨a, kvs, e, na, r, z, q⟩ => ⟨a, kvs, e, na, r, z, Rps.unext x hm xs _ n q⟩
  | .exc c d, v, n, ⟨a, dx, w, e, na, r, nd, z, q⟩ => ⟨a, dx, w, e, na, by rw [← ga_ext x hm]; exact r, nd, z, Rp.unext x hm d w n q⟩
  | .yng j caps, v, n, r => by cases n
  | .clo j cs, v, n, _ => by cases n
theorem Rps.unext (x : KExt k k') (hm : (k.lookup mainGlobals).isSome = true) : ∀ (ds : List D) (vs : List V), noCs ds = true → Rps ⟨k', C⟩ H A ds vs → Rps ⟨k, C⟩ H A ds vs
  | [], vs, n, r => r
  | d :: ds, vs, n, ⟨v, r, e, h1, h2⟩ => ⟨v, r, e, Rp.unext x hm d v (Bool.and_eq_true_iff.mp n).1 h1, Rps.unext x hm ds r (Bool.and_eq_true_iff.mp n).2 h2⟩
end
end
/-! ### young lambdas hidden -/
def IsY (H : Hp) (a : Addr) : Prop := ∃ t cells c', H a = some (YngO t cells a c')
open Classical in
noncomputable def hid (H : Hp) : Hp := fun a => if IsY H a then none else H a
theorem hid_y {H : Hp} {a : Addr} (h : IsY H a) : hid H a = none := if_pos h
theorem hid_n {H : Hp} {a : Addr} (h : ¬ IsY H a) : hid H a = H a := if_neg h
theorem hid_none {H : Hp} {a : Addr} (h : H a = none) : hid H a = none := by
  by_cases y : IsY H a
  · exact hid_y y
  · rw [hid_n y]; exact h
theorem hid_some {H : Hp} {a : Addr} {o : HO} (h : hid H a = some o) : H a = some o ∧ ¬ IsY H a := by
  by_cases y : IsY H a
  · rw [hid_y y] at h; cases h
  · rw [hid_n y] at h; exact ⟨h, y⟩
theorem notY {H : Hp} {a : Addr} {o : HO} (h : H a = some o) (n : ∀ φ, o ≠ .ext φ) : ¬ IsY H a := fun ⟨t, cells, c', e⟩ => by
  rw [e] at h
  cases h
  exact n _ rfl
open Classical in
/-- and told again -/
noncomputable def unhid (H H' : Hp) : Hp := fun a => if IsY H a then H a else H' a
theorem unhid_y {H H' : Hp} {a : Addr} (h : IsY H a) : unhid H H' a = H a := if_pos h
theorem unhid_n {H H' : Hp} {a : Addr} (h : ¬ IsY H a) : unhid H H' a = H' a := if_neg h
/-- a code object is no young lambda's function object -/
theorem code_notY {H : Hp} {h : Heap} {P : Program} {w : World} (ok : HOk P w H h) {c : Addr} {q : Str} (e : H c = some (LamX.CodeO c q)) : ¬ IsY H c := fun ⟨t, cells, c', e2⟩ => by
  have o1 := ok c _ e
  have o2 := ok c _ e2
  obtain ⟨⟨oc, vs, tk, h1, h2, _⟩, _⟩ := o1
  obtain ⟨⟨pm, ctv, h3⟩, _⟩ := o2
  rw [h1] at h3
  cases h3
  cases h2
end Dn
end

section
set_option linter.all false
set_option autoImplicit false
set_option maxRecDepth 10000
/-! DnS: a call that hands lambdas on. -/
namespace Dn
open PySem PySem.Spec PyProof.Rows L2

/-- a lambda of this frame: its captured names stand in these slots -/
structure LamAt (X : Cx) (t : Lam) : Prop where
  nm : (cloFrom X.env.cells t.scope.names []).map (·.1) = t.names
  ix : t.caps.map (fun i => X.N[i]?) = t.names.map some
  cell : ∀ y ∈ t.names, X.env.scope.names.lookup y = some .cell
  nd : t.names.Nodup
/-- found in the heap, untracked or a young lambda's, no frame -/
def GoodM (X : Cx) (H : Hp) (h : Heap) (m : PySem.W.Frag) : Prop := ∀ p ∈ m, Xtra p.2 ∧ h.get? p.1 = some p.2 ∧ (H p.1 = none ∨ IsY H p.1) ∧ p.1 ∉ frs X.stack
def Agree (h : Heap) (k : PySem.W.Frag) : Prop := ∀ a o, k.lookup a = some o → h.get? a = some o
def Has (m k : PySem.W.Frag) : Prop := ∀ p ∈ m, (k.lookup p.1).isSome = true
theorem Has.get {h : Heap} {m k : PySem.W.Frag} {X : Cx} {H : Hp} (g : GoodM X H h m) (ag : Agree h k) (hs : Has m k) {p : Addr × Obj} (hp : p ∈ m) : k.lookup p.1 = some p.2 := by
  obtain ⟨o, e⟩ := Option.isSome_iff_exists.mp (hs p hp)
  have e1 := ag _ _ e
  rw [(g p hp).2.1] at e1
  cases e1
  exact e
section
variable {k : PySem.W.Frag} {C : Cl} {H : Hp} {A : AS} {P : Program} {w : World} {h : Heap}
mutual
theorem Rp.hid (ok : HOk P w H h) : ∀ (d : D) (v : V), noY d = true → Rp ⟨k, C⟩ H A d v → Rp ⟨k, C⟩ (Dn.hid H) A d v
  | .non, v, n, r => r
  | .bl b, v, n, r => r
  | .int i, v, n, r => r
  | .str s, v, n, r => r
  | .tup xs, v, n, ⟨a, vs, e, r, q⟩ => ⟨a, vs, e, r.imp (fun z => ⟨z.1, by rw [hid_n (notY z.2 fun φ z => by cases z)]; exact z.2⟩) id, Rps.hid ok xs vs n q⟩
  | .lst xs, v, n, ⟨a, vs, e, na, r, q⟩ => ⟨a, vs, e, na, by rw [hid_n (notY r fun φ z => by cases z)]; exact r, Rps.hid ok xs vs n q⟩
  | .fz xs, v, n, ⟨a, o, vs, e, na, r, q⟩ => ⟨a, o, vs, e, na, by rw [hid_n (notY r fun φ z => by cases z)]; exact r, Rps.hid ok xs vs n q⟩
  | .dct ks xs, v, n, ⟨a, kvs, e, na, r, z, q⟩ => ⟨a, kvs, e, na, by rw [hid_n (notY r fun φ z => by cases z)]; exact r, z, Rps.hid ok xs _ n q⟩
  | .exc c d, v, n, ⟨a, dx, w, e, na, r, nd, z, q⟩ => ⟨a, dx, w, e, na, by rw [hid_n (exc_notY ok r)]; exact r, nd, by rw [hid_n (notY z fun φ z => by cases z)]; exact z, Rp.hid ok d w n q⟩
  | .yng j caps, v, n, r => by cases n
  | .clo j cs, v, n, ⟨t, f, c2, pm, ctv, cl, ws, l, e, r, nc, q, m, nd, z, p⟩ => ⟨t, f, c2, pm, ctv, cl, ws, l, e, r, nc, by rw [hid_n (code_notY ok q)]; exact q, m, nd, z, Rps.hid ok cs ws n p⟩
theorem Rps.hid (ok : HOk P w H h) : ∀ (ds : List D) (vs : List V), noYs ds = true → Rps ⟨k, C⟩ H A ds vs → Rps ⟨k, C⟩ (Dn.hid H) A ds vs
  | [], vs, n, r => r
  | d :: ds, vs, n, ⟨v, r, e, h1, h2⟩ => ⟨v, r, e, Rp.hid ok d v (Bool.and_eq_true_iff.mp n).1 h1, Rps.hid ok ds r (Bool.and_eq_true_iff.mp n).2 h2⟩
theorem exc_notY (ok : HOk P w H h) {C dx a : Addr} (e : H a = some (ExH C dx a)) : ¬ IsY H a := fun ⟨t, cells, c', e2⟩ => by
  have o1 := ok a _ e
  have o2 := ok a _ e2
  obtain ⟨⟨oe, vs, h1, h2, h3⟩, _⟩ := o1
  obtain ⟨⟨pm, ctv, h4⟩, _⟩ := o2
  rw [h1] at h4
  cases h4
  cases h3
end
end
section
variable {X : Cx} {L : Nat → Option Lam} {Z : AS} {Γ : Env} {σ : L2.St} {H : Hp} {M : AS} {pins : List (Addr × Obj)} {s : Shared} {js : List Nat}
theorem cell_out (I : Inv X pins σ H s) (hfn : X.fn = fun _ => true) {y : Str} {c : Addr} (e : X.env.cells.lookup y = some c) : c ∉ frs X.stack := fun hm => by
  rcases List.mem_cons.mp (I.stkSub c hm) with z | z
  · obtain ⟨v, o, ho, hd⟩ := I.cell y c e
    obtain ⟨m, ⟨o2, es, ep, ho2, hd2, _⟩, _⟩ := I.loc
    rw [z, ho2] at ho
    cases ho
    rw [hd2] at hd
    cases hd
  · obtain ⟨_, o, ho, _⟩ := I.ok.funs.mem z
    have h1 := I.ok.cab y c (by rw [hfn]) e
    exact Nat.lt_irrefl _ (Nat.lt_of_lt_of_le (Heap.lt_size ho) h1)
theorem caps_ok (r : Rel (kb X ⟨X.env.cells, L⟩) Z Γ σ H M) (I : Inv X pins σ H s) (hfn : X.fn = fun _ => true) : ∀ {cl : List (Str × Addr)} {caps : List Nat} {cs : List D}, (∀ p ∈ cl, p.2 = (X.env.cells.lookup p.1).getD 0 ∧ X.env.scope.names.lookup p.1 = some .cell) → caps.map (fun i => X.N[i]?) = cl.map (fun p => some p.1) → capsV Γ caps = some cs →
    ∃ (m : PySem.W.Frag) (ws : List V), GoodM X H s.heap m ∧ noYs cs = true ∧ Rps (kb X ⟨X.env.cells, L⟩) H (un M Z) cs ws ∧ ∀ k', Agree s.heap k' → Has m k' → CellsK k' cl ws
  | [], [], cs, hcl, hix, e => by
    cases e
    exact ⟨[], [], (fun p hp => by cases hp), rfl, rfl, fun _ _ _ => trivial⟩
  | [], _ :: _, cs, hcl, hix, e => by cases hix
  | _ :: _, [], cs, hcl, hix, e => by cases hix
  | p :: cl, i :: caps, cs, hcl, hix, e => by
    obtain ⟨hi, hix⟩ := List.cons_eq_cons.mp hix
    unfold capsV at e
    split at e
    rotate_left
    · cases e
    rename_i d hd
    split at e
    rotate_left
    · cases e
    rename_i hn
    obtain ⟨l, el, rfl⟩ := Option.map_eq_some_iff.mp e
    obtain ⟨m, ws, g, ns, hws, cells⟩ := caps_ok r I hfn (fun q hq => hcl q (List.mem_cons_of_mem _ hq)) hix el
    obtain ⟨v, ev, hp⟩ := r.sl i _ hd
    obtain ⟨h1, h2⟩ := hcl p List.mem_cons_self
    obtain ⟨m0, hns, look⟩ := I.loc
    obtain ⟨u, rv, lk⟩ := look i p.1 v hi ev (.inr (.inl h2))
    rcases lk with ⟨z, _⟩ | ⟨_, c, ec, o, ho, hdt⟩
    · have z : X.env.scope.names.lookup p.1 = some .local := z
      rw [h2] at z; cases z
    · have ep : p.2 = c := by rw [h1, ec]; rfl
      refine ⟨(c, o) :: m, v :: ws, fun q hq => ?_, ?_, ⟨v, ws, rfl, hp, hws⟩, fun k' ag hs => ⟨⟨o, u, ?_, hdt, rv⟩, cells k' ag fun q hq => hs q (List.mem_cons_of_mem _ hq)⟩⟩
      · rcases List.mem_cons.mp hq with rfl | hq
        · exact ⟨.inr ⟨_, hdt⟩, ho, .inl (I.freeC _ _ ec), cell_out I hfn ec⟩
        · exact g q hq
      · show (noY d && noYs l) = true
        rw [hn, ns]
        rfl
      · rw [ep]
        obtain ⟨o2, e2⟩ := Option.isSome_iff_exists.mp (hs (c, o) List.mem_cons_self)
        have e3 := ag _ _ e2
        rw [ho] at e3
        cases e3
        exact e2
theorem nodup_snd : ∀ {l : List (Str × Addr)}, (l.map (·.1)).Nodup → (∀ p ∈ l, ∀ q ∈ l, p.2 = q.2 → p.1 = q.1) → (l.map (·.2)).Nodup
  | [], _, _ => .nil
  | p :: l, n, h => by
    obtain ⟨n1, n2⟩ := List.nodup_cons.mp (show (p.1 :: l.map (·.1)).Nodup from n)
    refine List.nodup_cons.mpr ⟨fun m => ?_, nodup_snd n2 fun a ha b hb => h a (List.mem_cons_of_mem _ ha) b (List.mem_cons_of_mem _ hb)⟩
    obtain ⟨q, hq, e⟩ := List.mem_map.mp m
    exact n1 (List.mem_map.mpr ⟨q, hq, (h p List.mem_cons_self q (List.mem_cons_of_mem _ hq) e.symm).symm⟩)
theorem plain (I : Inv X pins σ H s) (hm0 : (X.K.lookup mainGlobals).isSome = true) {d d' : D} {v : V} (e : (if noY d = true then some d else none) = some d') (q : Rp (kb X ⟨X.env.cells, L⟩) H (un M Z) d v) :
    ∃ m : PySem.W.Frag, GoodM X H s.heap m ∧ ∀ k', KExt X.K k' → Agree s.heap k' → Has m k' → Rp ⟨k', ⟨X.env.cells, L⟩⟩ (hid H) (un M Z) d' v := by
  split at e
  · rename_i n
    cases e
    exact ⟨[], (fun p hp => by cases hp), fun k' x _ _ => Rp.ext x hm0 d v (Rp.hid I.hok d v n q)⟩
  · cases e
mutual
theorem ripe_ok (r : Rel (kb X ⟨X.env.cells, L⟩) Z Γ σ H M) (I : Inv X pins σ H s) (hfn : X.fn = fun _ => true) (hm0 : (X.K.lookup mainGlobals).isSome = true) (hL : ∀ j ∈ js, ∀ t, L j = some t → LamAt X t) : ∀ (d : D) (d' : D) (v : V), ripe js Γ d = some d' → Rp (kb X ⟨X.env.cells, L⟩) H (un M Z) d v →
    ∃ m : PySem.W.Frag, GoodM X H s.heap m ∧ ∀ k', KExt X.K k' → Agree s.heap k' → Has m k' → Rp ⟨k', ⟨X.env.cells, L⟩⟩ (hid H) (un M Z) d' v
  | .yng j caps, d', v, e, ⟨t, f, c', ⟨hj, hcaps⟩, ev, nf, hf, nc, hc⟩ => by
    unfold ripe at e
    split at e
    rotate_left
    · cases e
    rename_i hjs
    obtain ⟨cs, ecs, rfl⟩ := Option.map_eq_some_iff.mp e
    have at_ := hL j hjs t hj
    obtain ⟨⟨pm, ctv, obj⟩, _⟩ := I.hok f _ hf
    have cls : ∀ p ∈ cloFrom X.env.cells t.scope.names [], p.2 = (X.env.cells.lookup p.1).getD 0 ∧ X.env.scope.names.lookup p.1 = some .cell := fun p hp => by
      refine ⟨?_, at_.cell p.1 (by rw [← at_.nm]; exact List.mem_map.mpr ⟨p, hp, rfl⟩)⟩
      rcases cloFrom_mem hp with z | ⟨_, z⟩
      · cases z
      · exact z
    have ixs : caps.map (fun i => X.N[i]?) = (cloFrom X.env.cells t.scope.names []).map (fun p => some p.1) := by
      rw [← hcaps, at_.ix, ← at_.nm, List.map_map]
      rfl
    obtain ⟨m, ws, g, ns, hws, cells⟩ := caps_ok r I hfn cls ixs ecs
    have nfr : f ∉ frs X.stack := fun z => by
      have := I.stkFree f z
      rw [hf] at this
      cases this
    have nd2 : ((cloFrom X.env.cells t.scope.names []).map (·.2)).Nodup := by
      have nd1 : ((cloFrom X.env.cells t.scope.names []).map (·.1)).Nodup := by rw [at_.nm]; exact at_.nd
      refine nodup_snd nd1 fun p hp q hq hpq => ?_
      obtain ⟨e1, k1⟩ := cls p hp
      obtain ⟨e2, k2⟩ := cls q hq
      obtain ⟨c1, h1⟩ := I.ok.has p.1 (.inl k1)
      obtain ⟨c2, h2⟩ := I.ok.has q.1 (.inl k2)
      rw [h1] at e1
      rw [h2] at e2
      have e1 : p.2 = c1 := e1
      have e2 : q.2 = c2 := e2
      exact I.ok.inj p.1 q.1 c1 h1 (by rw [h2, ← e2, ← hpq, e1])
    refine ⟨(f, PySem.W.kla_obj "<lambda>" t.qual t.params t.body t.scope (cloFrom X.env.cells t.scope.names []) pm c' ctv) :: m, fun q hq => ?_, fun k' x ag hs => ⟨t, f, c', pm, ctv, _, ws, hj, ev, ?_, nc, ?_, at_.nm, nd2, cells k' ag fun q hq => hs q (List.mem_cons_of_mem _ hq), Rps.ext x hm0 cs ws (Rps.hid I.hok cs ws ns hws)⟩⟩
    · rcases List.mem_cons.mp hq with rfl | hq
      · exact ⟨.inl ⟨_, rfl, rfl⟩, obj, .inr ⟨t, _, c', hf⟩, nfr⟩
      · exact g q hq
    · obtain ⟨o2, e2⟩ := Option.isSome_iff_exists.mp (hs _ List.mem_cons_self)
      have e3 := ag _ _ e2
      rw [obj] at e3
      cases e3
      exact e2
    · rw [hid_n (code_notY I.hok hc)]
      exact hc
  | .tup xs, d', v, e, ⟨a, vs, ev, ra, q⟩ => by
    unfold ripe at e
    obtain ⟨ys, ey, rfl⟩ := Option.map_eq_some_iff.mp e
    obtain ⟨m, g, h⟩ := ripes_ok r I hfn hm0 hL xs ys vs ey q
    exact ⟨m, g, fun k' x ag hs => ⟨a, vs, ev, ra.imp (fun z => ⟨z.1, by rw [hid_n (notY z.2 fun φ z => by cases z)]; exact z.2⟩) (KT.ext x), h k' x ag hs⟩⟩
  | .lst xs, d', v, e, ⟨a, vs, ev, na, ra, q⟩ => by
    unfold ripe at e
    obtain ⟨ys, ey, rfl⟩ := Option.map_eq_some_iff.mp e
    obtain ⟨m, g, h⟩ := ripes_ok r I hfn hm0 hL xs ys vs ey q
    exact ⟨m, g, fun k' x ag hs => ⟨a, vs, ev, na, by rw [hid_n (notY ra fun φ z => by cases z)]; exact ra, h k' x ag hs⟩⟩
  | .non, d', v, e, q => plain I hm0 (by unfold ripe at e; exact e) q
  | .bl b, d', v, e, q => plain I hm0 (by unfold ripe at e; exact e) q
  | .int i, d', v, e, q => plain I hm0 (by unfold ripe at e; exact e) q
  | .str i, d', v, e, q => plain I hm0 (by unfold ripe at e; exact e) q
  | .fz xs, d', v, e, q => plain I hm0 (by unfold ripe at e; exact e) q
  | .dct ks xs, d', v, e, q => plain I hm0 (by unfold ripe at e; exact e) q
  | .exc c d, d', v, e, q => plain I hm0 (by unfold ripe at e; exact e) q
  | .clo j cs, d', v, e, q => plain I hm0 (by unfold ripe at e; exact e) q
theorem ripes_ok (r : Rel (kb X ⟨X.env.cells, L⟩) Z Γ σ H M) (I : Inv X pins σ H s) (hfn : X.fn = fun _ => true) (hm0 : (X.K.lookup mainGlobals).isSome = true) (hL : ∀ j ∈ js, ∀ t, L j = some t → LamAt X t) : ∀ (ds : List D) (ds' : List D) (vs : List V), ripes js Γ ds = some ds' → Rps (kb X ⟨X.env.cells, L⟩) H (un M Z) ds vs →
    ∃ m : PySem.W.Frag, GoodM X H s.heap m ∧ ∀ k', KExt X.K k' → Agree s.heap k' → Has m k' → Rps ⟨k', ⟨X.env.cells, L⟩⟩ (hid H) (un M Z) ds' vs
  | [], ds', vs, e, q => by
    cases e
    exact ⟨[], (fun p hp => by cases hp), fun _ _ _ _ => q⟩
  | d :: ds, ds', vs, e, ⟨v, ws, ev, h1, h2⟩ => by
    unfold ripes at e
    obtain ⟨x, ex, e⟩ := Option.bind_eq_some_iff.mp e
    obtain ⟨xs, exs, rfl⟩ := Option.map_eq_some_iff.mp e
    obtain ⟨m1, g1, k1⟩ := ripe_ok r I hfn hm0 hL d x v ex h1
    obtain ⟨m2, g2, k2⟩ := ripes_ok r I hfn hm0 hL ds xs ws exs h2
    refine ⟨m1 ++ m2, fun p hp => (List.mem_append.mp hp).elim (g1 p) (g2 p), fun k' x ag hs => ⟨v, ws, ev, k1 k' x ag fun p hp => hs p (List.mem_append_left _ hp), k2 k' x ag fun p hp => hs p (List.mem_append_right _ hp)⟩⟩
end
end
end Dn
end

section
set_option linter.all false
set_option autoImplicit false
set_option maxRecDepth 10000
/-! DnT: a call that hands lambdas on, in its frame. -/
namespace Dn
open PySem PySem.Spec PyProof.Rows L2
theorem yng_obj {t : Lam} {cells : List (Str × Addr)} {f c' : Addr} {P : Program} {w : World} {H : Hp} {h : Heap} (e : ∃ pm ctv, h.get? f = some (PySem.W.kla_obj "<lambda>" t.qual t.params t.body t.scope (cloFrom cells t.scope.names []) pm c' ctv)) :
    ObjOk P w H h f (YngO t cells f c') := by
  obtain ⟨pm, ctv, e⟩ := e
  exact ⟨⟨pm, ctv, e⟩, ⟨_, e⟩, fun h1 h2 ⟨pm, ctv, a⟩ st => ⟨pm, ctv, st _ a⟩⟩
section
variable {X : Cx} {L : Nat → Option Lam} {cf : CallF} {Z : AS} {Γ : Env} {σ : L2.St} {H : Hp} {M : AS} {pins : List (Addr × Obj)} {s : Shared} {js : List Nat}
/-- the call itself -/
theorem run_y {n j m : Nat} {f : Addr} {hs : List Ah} {ds ds' : List D} {d : D} {us : List Value} {vs : List V} {Q : VK} (G : Gd X) (hr : Room n X.A) (hfn : X.fn = fun _ => true) (hm0 : (X.K.lookup mainGlobals).isSome = true) (hL : ∀ j ∈ js, ∀ t, L j = some t → LamAt X t)
    (F : ∀ k' base', KExt X.K k' → k'.In base' → (∀ b o, X.base.get? b = some o → base'.get? b = some o) → ∃ fd ps, FnG X.prog X.w k' X.mg base' n f fd ps (spD ⟨k', ⟨X.env.cells, L⟩⟩ (cf j) (List.replicate m false)) ∧ Binds k' fd ps [])
    (I : Inv X pins σ H s) (r : Rel (kb X ⟨X.env.cells, L⟩) Z Γ σ H M) (rv : Vals vs us) (av : AVs (kb X ⟨X.env.cells, L⟩) (un M Z) σ H hs vs) (e1 : valsOf hs = some ds) (e2 : ripes js Γ ds = some ds') (e3 : cf j ds' = some (.ok d false [])) (hd : noC d = true) (hlen : ds'.length = m)
    (q : ∀ v H' M', Rel (kb X ⟨X.env.cells, L⟩) Z Γ σ H' M' → Fr H M H' M' → RVal (kb X ⟨X.env.cells, L⟩) Z Γ σ H' M' d false v → Q v H') : wpAny (model X.prog X.w) X.A (PySem.call (.ref f) us) (EP X pins σ Q) X.xe s := by
  obtain ⟨hvs, hno⟩ := args_vals av e1
  obtain ⟨mm, g, kk⟩ := ripes_ok r I hfn hm0 hL ds ds' vs e2 hvs
  have x := ext_app X.K mm fun p hp => (g p hp).1
  have ag : Agree s.heap (X.K ++ mm) := fun a o e => by
    rw [lookup_app] at e
    cases e4 : X.K.lookup a with
    | some o1 => rw [e4] at e; cases e; exact I.kIn a o e4
    | none =>
      rw [e4] at e
      obtain ⟨p, hp, ea, eo⟩ := lookup_mem e
      rw [← ea, ← eo]
      exact (g p hp).2.1
  have has : Has mm (X.K ++ mm) := fun p hp => by
    rw [lookup_app]
    cases e4 : X.K.lookup p.1 with
    | some o1 => rfl
    | none => exact lookup_isSome hp
  have args := kk _ x ag has
  have frB : ∀ b ∈ frs X.stack, X.base.get? b = none := fun b hb => (I.stack.mem hb).1
  have baseOf : ∀ {b o}, s.heap.get? b = some o → hid H b = none → b ∉ frs X.stack → (PySem.W.hideAll (hidT s.heap (hid H)) (frs X.stack)).get? b = some o := fun {b o} e n nb => PySem.W.hideAll_get _ (hidT_get e n) nb
  have ofBase : ∀ {b o}, (PySem.W.hideAll (hidT s.heap (hid H)) (frs X.stack)).get? b = some o → s.heap.get? b = some o ∧ hid H b = none := fun {b o} e => of_hidT (PySem.W.of_hideAll _ e)
  have sub : ∀ b o, X.base.get? b = some o → (PySem.W.hideAll (hidT s.heap (hid H)) (frs X.stack)).get? b = some o := fun b o e => by
    obtain ⟨h1, h2⟩ := I.bs b o e
    exact baseOf h1 (hid_none h2) fun hb => by rw [frB b hb] at e; cases e
  have inK : (X.K ++ mm).In (PySem.W.hideAll (hidT s.heap (hid H)) (frs X.stack)) := fun a o e => by
    rw [lookup_app] at e
    cases e4 : X.K.lookup a with
    | some o1 => rw [e4] at e; cases e; exact sub a o (I.mod.kin a o e4)
    | none =>
      rw [e4] at e
      obtain ⟨p, hp, ea, eo⟩ := lookup_mem e
      obtain ⟨_, h2, h3, h4⟩ := g p hp
      rw [← ea, ← eo]
      exact baseOf h2 (h3.elim hid_none hid_y) h4
  have md : L2.Mod (X.K ++ mm) X.mg (PySem.W.hideAll (hidT s.heap (hid H)) (frs X.stack)) := by
    obtain ⟨mb, b1, b2⟩ := I.mod.blt
    exact ⟨inK, I.mod.glob.keeps sub, ⟨mb, b1.keeps sub, b2⟩, I.mod.nolimit.keeps sub⟩
  have hidS : ∀ {b o}, H b = some o → (∀ φ, o ≠ .ext φ) → hid H b = some o := fun {b o} e n => by rw [hid_n (notY e n)]; exact e
  have hok : HOk X.prog X.w (hid H) s.heap := fun a o e => by
    obtain ⟨h1, _⟩ := hid_some e
    exact (I.hok a o h1).stay (fun _ _ _ q => q) (fun b q => hidS q fun φ z => by cases z) fun b xs q => hidS q fun φ z => by cases z
  have e0 : Env0 X.prog X.w (X.K ++ mm) X.mg (PySem.W.hideAll (hidT s.heap (hid H)) (frs X.stack)) X.A X.stack s (hid H) :=
    ⟨I.ok.frames, md, fun b o e => ofBase e, by rw [PySem.W.hideAll_size, hidT_size]; exact Nat.le_refl _, funFrames_none I.stack fun b hb => PySem.W.hideAll_none _ hb, fun b hb => hid_none (I.stkFree b hb), hok, I.bare⟩
  obtain ⟨fd, ps, Fn, hb⟩ := F _ _ x inK sub
  have tT : ∀ a, onT ⟨X.K ++ mm, ⟨X.env.cells, L⟩⟩ [] a ↔ onT (kb X ⟨X.env.cells, L⟩) [] a := fun a => by
    unfold onT
    rw [show tabs (X.K ++ mm) = tabs X.K from x.tb]
  have hT : ∀ a, onT (kb X ⟨X.env.cells, L⟩) [] a → M a := fun a m => by
    rcases m with m | ⟨p, hp, rfl⟩
    · cases m
    · exact (r.tb p hp).1
  have ny : ∀ a, un M Z a → ¬ IsY H a := fun a m ⟨t, c, c', e⟩ => r.nc a m c' _ e
  have alive : ∀ a, un M Z a → hid H a ≠ none := fun a m => by rw [hid_n (ny a m)]; exact m.elim (r.md a) (r.zd a)
  have sets : ∀ a, ¬ un M Z a → ¬ un (onT ⟨X.K ++ mm, ⟨X.env.cells, L⟩⟩ []) (fun a => Z a ∨ (M a ∧ ¬ onT (kb X ⟨X.env.cells, L⟩) [] a)) a := fun a n u => n (by
    rcases u with u | u | u
    · exact .inl (hT a ((tT a).mp u))
    · exact .inr u
    · exact .inl u.1)
  have zM : ∀ a, (Z a ∨ (M a ∧ ¬ onT (kb X ⟨X.env.cells, L⟩) [] a)) → un M Z a := fun a z => z.elim .inr fun z => .inl z.1
  have tabH : ∀ p ∈ tabs X.K, LamX.TabS (hid H) p.1 p.2 := fun p hp => by
    obtain ⟨ps, t1, t2, t3⟩ := (r.tb p hp).2
    refine ⟨ps, (hidS t1 fun φ z => by cases z), t2, fun pos cv hc => ?_⟩
    obtain ⟨c, c1, c2⟩ := t3 pos cv hc
    exact ⟨c, c1, by rw [hid_n (code_notY I.hok c2)]; exact c2⟩
  have hsp : spD ⟨X.K ++ mm, ⟨X.env.cells, L⟩⟩ (cf j) (List.replicate m false) vs (hid H) (fun v H' => ∃ M', Post ⟨X.K ++ mm, ⟨X.env.cells, L⟩⟩ (fun a => Z a ∨ (M a ∧ ¬ onT (kb X ⟨X.env.cells, L⟩) [] a)) [] (hid H) H' M' ∧ Rp ⟨X.K ++ mm, ⟨X.env.cells, L⟩⟩ H' (un M' (fun a => Z a ∨ (M a ∧ ¬ onT (kb X ⟨X.env.cells, L⟩) [] a))) d v) E0 := by
    refine ⟨_, ds', [], _, e3, ?_, .nil, fun a z m => ?_, fun a z => alive a (zM a z), fun p hp => tabH p (by rw [← x.tb]; exact hp), fun a z c φ => ?_, fun v H' M' p _ hv => ⟨M', p, hv⟩⟩
    · rw [← hlen]
      exact ofRps (Rps.mono (fun a o e n => ⟨e, sets a n⟩) _ _ args)
    · rcases z with z | z
      · exact r.zm a z (hT a ((tT a).mp m))
      · exact z.2 ((tT a).mp m)
    · rw [hid_n (ny a (zM a z))]
      exact r.nc a (zM a z) c φ
  have bnd := hb s us (fun a o e => ag a o e) (by rw [List.append_nil, ← rv.length]; exact Fn.len _ _ _ _ hsp)
  rw [List.append_nil] at bnd
  refine wpAny_call (codeAny_mono (Fn.run X.A X.stack s (hid H) ⟨us, []⟩ us vs _ E0 G.gd hr e0 bnd rv hsp) fun res s' hq => ?_)
  rcases hq with ⟨u, rfl, v, H', os, bare, uu, hok', rr, M', post, hp⟩ | ⟨u, _, _, _, _, _, _, _, _, _, _, _, _, _, h⟩
  rotate_left
  · exact h.elim
  -- the young ones told again
  have objY : ∀ {a}, IsY H a → ∃ o, s.heap.get? a = some o := fun {a} ⟨t, c, c', e⟩ => by
    obtain ⟨⟨pm, ctv, h⟩, _⟩ := I.hok a _ e
    exact ⟨_, h⟩
  have noneY : ∀ {a}, IsY H a → H' a = none := fun {a} y => by
    obtain ⟨o, ho⟩ := objY y
    exact uu.free a o ho (hid_y y) (by simp)
  have sub2 : ∀ {a o}, H' a = some o → unhid H H' a = some o := fun {a o} e => by
    rw [unhid_n fun y => by rw [noneY y] at e; cases e]
    exact e
  have un2 : Un (frs X.stack) [] H (unhid H H') s.heap s'.heap := by
    refine ⟨fun b o e n => uu.keep b o e (hid_none n), fun b o e n => uu.slot b o e (hid_none n), fun b o e n nx => ?_, uu.there, fun b xs e => sub2 (uu.tups b xs (hidS e fun φ z => by cases z)), fun b o u e => sub2 (uu.frzs b o u (hidS e fun φ z => by cases z)), fun b ps e => ?_⟩
    · rw [unhid_n fun ⟨t, c, c', y⟩ => by rw [n] at y; cases y]
      exact uu.free b o e (hid_none n) nx
    · obtain ⟨more, h⟩ := uu.tbls b ps (hidS e fun φ z => by cases z)
      exact ⟨more, sub2 h⟩
  have hok2 : HOk X.prog X.w (unhid H H') s'.heap := fun a o e => by
    by_cases y : IsY H a
    · rw [unhid_y y] at e
      have y2 := y
      obtain ⟨t, c, c', ey⟩ := y2
      rw [ey] at e
      cases e
      obtain ⟨⟨pm, ctv, h⟩, _⟩ := I.hok a _ ey
      refine yng_obj ⟨pm, ctv, uu.keep a _ h (hid_y y) (fun z => ?_) (by simp)⟩
      have := I.stkFree a z
      rw [ey] at this
      cases this
    · rw [unhid_n y] at e
      exact (hok' a o e).stay (fun _ _ _ q => q) (fun b q => sub2 q) fun b xs q => sub2 q
  have J := I.call (h' := s'.heap) (g' := s'.gens) (d' := s'.drawn) (t' := s'.toks) (ch := []) un2 hok2 bare fun b z => absurd z (by simp)
  have Js : Inv X pins σ (unhid H H') s' := by
    obtain ⟨hh, gg, dd, tt, oo⟩ := s'
    obtain rfl : oo = s.os := os
    exact J
  have post2 : Post (kb X ⟨X.env.cells, L⟩) (fun a => Z a ∨ (M a ∧ ¬ onT (kb X ⟨X.env.cells, L⟩) [] a)) [] H (unhid H H') M' := by
    obtain ⟨f1, p1, p2, p3, p4, p5⟩ := post
    have nyM : ∀ {a}, M' a → ¬ IsY H a := fun {a} m y => p4 a m (noneY y)
    refine ⟨⟨fun a o e n => ?_, fun a m => ?_, fun a n => ?_⟩, p1, fun p hp => ?_, p3, fun a m => ?_, fun a m c φ => ?_⟩
    · by_cases y : IsY H a
      · rw [unhid_y y]; exact e
      · exact sub2 (f1.kp a o (by rw [hid_n y]; exact e) fun m => n ((tT a).mp m))
    · rcases f1.nw a m with h | h
      · exact .inl ((tT a).mp h)
      · rw [hid_n (nyM m)] at h; exact .inr h
    · by_cases y : IsY H a
      · rw [unhid_y y]; exact n
      · obtain ⟨o, ho⟩ := Option.ne_none_iff_exists'.mp (f1.dm a (by rw [hid_n y]; exact n))
        rw [sub2 ho]
        exact fun z => by cases z
    · obtain ⟨t1, t2⟩ := p2 p (by rw [show tabs (X.K ++ mm) = tabs X.K from x.tb]; exact hp)
      exact ⟨t1, t2.ext fun b o e => sub2 e⟩
    · rw [unhid_n (nyM m)]; exact p4 a m
    · rw [unhid_n (nyM m)]; exact p5 a m c φ
  have hR : RefsAt Γ σ (refsOf hs) [] := by rw [hno]; trivial
  have pb : putBack hs [] Γ = some Γ := no_refs av (by rw [hno]; rfl)
  obtain ⟨r2, f2, ap⟩ := after_call r av hR hT (by rw [hno]; exact .nil) pb post2 trivial
  refine ⟨v, unhid H H', Js, rr, q v _ _ r2 f2 (val_back (rs := []) (fr := false) ap ?_)⟩
  rw [if_neg Bool.false_ne_true]
  exact Rp.mono (fun a o e n => ⟨sub2 e, n⟩) _ _ (Rp.unext x hm0 d v hd hp)
where
  lookup_mem {α : Type} {a : Addr} {o : α} : ∀ {K : List (Addr × α)}, K.lookup a = some o → ∃ p ∈ K, p.1 = a ∧ p.2 = o
    | [], e => by cases e
    | p :: r, e => by
      rw [List.lookup_cons] at e
      split at e
      · rename_i h
        cases e
        exact ⟨p, List.mem_cons_self, (beq_iff_eq.mp h).symm, rfl⟩
      · obtain ⟨q, m, h⟩ := lookup_mem e
        exact ⟨q, List.mem_cons_of_mem _ m, h⟩
  lookup_isSome {α : Type} {p : Addr × α} : ∀ {K : List (Addr × α)}, p ∈ K → (K.lookup p.1).isSome = true
    | [], m => by cases m
    | q :: r, m => by
      rw [List.lookup_cons]
      cases e : p.1 == q.1 with
      | true => rfl
      | false =>
        rcases List.mem_cons.mp m with rfl | m
        · rw [beq_self_eq_true] at e; cases e
        · exact lookup_isSome m
/-- f(.., lambdas, ..) -/
theorem e_caly {n j m : Nat} {f : Addr} {a : Expr} {es : List Expr} {x : Str} {p pos : Pos} {as : As} (G : Gd X) (hr : Room n X.A) (hfn : X.fn = fun _ => true) (hm0 : (X.K.lookup mainGlobals).isSome = true) (hL : ∀ j ∈ js, ∀ t, L j = some t → LamAt X t)
    (F : ∀ k' base', KExt X.K k' → k'.In base' → (∀ b o, X.base.get? b = some o → base'.get? b = some o) → ∃ fd ps, FnG X.prog X.w k' X.mg base' n f fd ps (spD ⟨k', ⟨X.env.cells, L⟩⟩ (cf j) (List.replicate m false)) ∧ Binds k' fd ps [])
    (hlen : ∀ ds oc, cf j ds = some oc → ds.length = m) (hm : X.mg x = some (.ref f)) (hk : PySem.W.keepIn X.K (.ref f) = true) (ha : PA X (a :: es) (tA (kb X ⟨X.env.cells, L⟩) (evAs cf as))) (hg : Gl X x := by rfl) (hs : noStar a = true := by rfl)
    (hpl : (backTo pos (starEach es X.env)).any (·.1) = false := by rfl) (hdb : (x == ("__debug__" : Str)) = false := by decide) :
    PE X (.Call (.Name x p) (a :: es) [] pos) (tE (kb X ⟨X.env.cells, L⟩) (evE cf (.caly j as js))) := by
  refine ⟨fun pins s σ H Q I h => ?_⟩
  obtain ⟨Z, M, Γ, r, w, Γe, e, q⟩ := h
  unfold evE at e
  obtain ⟨hs', Γ1, e1, e⟩ := Res.bind_ok e
  split at e
  rotate_left
  · cases e
  rename_i ds ed
  split at e
  rotate_left
  · cases e
  rename_i ds' er
  split at e
  rotate_left
  · cases e
  rename_i d ec
  split at e
  rotate_left
  · cases e
  rename_i hd
  have ew : (d, false) = w ∧ Γ1 = Γe := by cases e; exact ⟨rfl, rfl⟩
  obtain ⟨w1, w2⟩ := ew
  rw [← w1, ← w2] at q
  clear e w1 w2
  refine wpAny_Call_Name_kw (ld_glob I hg hm ?_ hdb)
  refine PySem.W.callWith_K (h₀ := X.base) I.ok.mod.kin hk (thn (ha.run pos pins s σ H (fun vs H1 => ∃ M1, Rel (kb X ⟨X.env.cells, L⟩) Z Γ1 σ H1 M1 ∧ Fr H M H1 M1 ∧ AVs (kb X ⟨X.env.cells, L⟩) (un M1 Z) σ H1 hs' vs) I ⟨Z, M, Γ, r, hs', Γ1, e1, fun vs H1 M1 r1 f1 av => ⟨M1, r1, f1, av⟩⟩) fun us s1 ⟨vs, H1, I1, rv, M1, r1, f1, av⟩ => ⟨I1.kIn, ?_⟩) (star1 hs) hpl
  exact run_y G hr hfn hm0 hL F I1 r1 rv av ed er ec hd (hlen _ _ ec) fun v H' M' r2 f2 hv => q v H' M' r2 (f1.trans f2) hv
end
end Dn
end

section
set_option linter.all false
set_option autoImplicit false
set_option maxRecDepth 10000
/-! DnU: the own exceptions' __init__ (super().__init__(value); self.value = value). -/
namespace Dn
open PySem PySem.Spec PyProof.Rows L2

section
variable {P : Program} {w : World} {A : Around} {E : Value → Shared → Prop} {h : Heap} {g : Array GenState} {d : Drawn} {t : Nat} {os : OsState}
/-- the built-in __init__ bound to an own exception, called -/
theorem mw_call {u e t0 C N : Addr} {nm q : Str} {bs bm : List Value} {hdct : Bool} {sn : List Str} {sub : List Value} {ab : Bool} {col : Option Bool} {dd : Option Addr} {k0 k1 k2 k3 k5 : Option Value} {rest : List Value} {Q : Value → Shared → Prop}
    (hC : h.get? C = some (excClassObj nm q C N bs bm hdct sn sub ab col dd k0 k1 k2 k3 k5 "ValueError.__new__")) (he : h.get? e = some (PySem.HandSPX.excO C t0)) (hu : h.get? u = some (PySem.W.kxs_mw "ValueError.__init__" e)) (hz : rest.length ≤ sizeLine)
    (hq : ∀ h' t1, (∀ b o, b ≠ e → h.get? b = some o → h'.get? b = some o) → h'.get? e = some (PySem.HandSPX.excO C t1) → Q .none ⟨h', g, d, t, os⟩) :
    wpAny (model P w) A (call (.ref u) rest) Q E ⟨h, g, d, t, os⟩ := by
  refine wpAny_call (codeAny_of_tree ?_)
  show wpAny _ A.in1 (callAny (.ref u) ⟨rest, []⟩) _ _ _
  simp only [callAny]
  refine wpAny_bind (wpAny_load hu ?_)
  simp only [PySem.W.kxs_mw, show (Value.type "method-wrapper" == Value.type "method" || Value.type "method-wrapper" == Value.type "builtin_function_or_method" || Value.type "method-wrapper" == Value.type "method-wrapper") = true by decide, if_true]
  refine PySem.W.KFB.if_so (by decide) ?_
  refine wpAny_bind (PySem.W.check_bound_init F.excBase_ValueError.toExcCallFacts hC he rfl ?_)
  refine wpAny_bind (wpAny_pure (wpAny_pure ?_))
  refine ⟨plainId_quiet F.excBase_ValueError.init.plain _, codeAny_builtin F.excBase_ValueError.initEntry ?_⟩
  rw [Around.under_plainId F.excBase_ValueError.init.plain _]
  exact PySem.W.exc_init_tree (cls := .ref C) (t0 := t0) (dv := none) (c2 := .none) (c3 := .none) (b4 := .bool false) he hz fun h' k1 k2 k3 => hq h' _ k1 k2
end

/-- what an own exception keeps: the promise of __init__ at the class C -/
def spI (C : Addr) : Sp := fun vs H Q _ => ∃ a v, vs = [.ref a, v] ∧ H a = some (exo a C none) ∧ ∀ dx, H dx = none → dx ≠ a → Q .non (upd (upd H dx (exd dx [("value", v)])) a (exo a C (some dx)))

/-- what the written part says of the root of the own exceptions (D: the class; f: its __init__; cc: the cell of __class__; c': the code) -/
structure InitK (P : Program) (k : PySem.W.Frag) (D f cc c' : Addr) (fd : FuncData) (qual : Str) (params : Arguments) (body : List Stmt) (scope : Scope) : Prop where
  fn : ∃ (oc : Value) (od : Option Addr) (dV kV doc pm : Value) (an : Option Addr) (ct : Value) (osl : Array (Option Value)), fd = PySem.W.ksFn "__init__" qual params body scope dV kV doc pm an (.ref c') ct cc ∧ k.lookup f = some ⟨oc, od, .func fd, osl⟩
  code : PySem.W.codeIn k (.ref c') qual = true
  file : ∃ (oc : Obj) (vs : Array Value) (file : Str) (tf : Tok), k.lookup c' = some oc ∧ oc.data = .fields vs ∧ vs[2]? = some (.str file tf) ∧ ((P.main.file : Str) == file) = true
  cell : ∃ o, k.lookup cc = some o ∧ o.data = .cell (some (.ref D))
  cls : ∃ oD cd, k.lookup D = some oD ∧ oD.data = .cls cd
  top : (P.main.scope.names.lookup ("super" : Str)).isSome = false
  stat : PySem.W.nsIn k cStatics "thirdparty.any" = some none
  dfl : fd.defaults = .none
/-- and of a class C below it -/
structure SubK (k : PySem.W.Frag) (D C : Addr) : Prop where
  ox : OexC k C
  sub : PySem.W.subIn k (.ref C) (.ref D) = some true
  sup : PySem.W.ks_superIn k C D "__init__" = some (some (.builtin "ValueError.__init__"))
  veq : PySem.W.subIn k (.ref C) (.type "ValueError") = some true
  noV : PySem.W.findIn k (.ref C) "value" = some none
section
variable {P : Program} {w : World} {k : PySem.W.Frag} {mg : Str → Option Value} {base : Heap} {n : Nat} {D C f cc c' : Addr} {fd : FuncData} {qual : Str} {params : Arguments} {scope : Scope} {p0 p1 p2 p3 p4 p5 p6 p7 p8 p9 : Pos} {ar : Arg}
/-- __init__ keeps its promise at C -/
theorem init_ok (I0 : InitK P k D f cc c' fd qual params [.Expr (.Call (.Attribute (.Call (.Name "super" p0) [] [] p1) "__init__" p2) [.Name "value" p3] [] p4) p5, .Assign [.Attribute (.Name "self" p6) "value" p7] (.Name "value" p8) p9] scope)
    (S : LamScope ["self", "value"] ["__class__"] scope) (SC : SubK k D C) (hsup : scope.names.lookup ("super" : Str) = some NameKind.globalImplicit) (hmg : mg "super" = none) (hboot : bootBuiltins "super" = some (.type "super"))
    (har : (params.posonlyargs ++ params.args).head? = some ar) (hself : ar.arg = "self")
    (hev : ∀ L : Addr, ∃ pl : Sem Bool, eval (.Call (.Attribute (.Call (.Name "super" p0) [] [] p1) "__init__" p2) [.Name "value" p3] [] p4) (PySem.W.envX qual scope L f (.ref c') [("__class__", cc)]) = (do
      let ov ← attributeBase (.Call (.Name "super" p0) [] [] p1) "__init__" (PySem.W.envX qual scope L f (.ref c') [("__class__", cc)]) (eval (.Call (.Name "super" p0) [] [] p1) (PySem.W.envX qual scope L f (.ref c') [("__class__", cc)]))
      standAt p2.atName
      let (fx, first) ← holding [ov] (getMethod ov "__init__" pl)
      callWith p4 fx first (backTo p4 (starEach [.Name "value" p3] (PySem.W.envX qual scope L f (.ref c') [("__class__", cc)]))) []))
    (hs1 : ∀ L : Addr, swapsWith (.Call (.Attribute (.Call (.Name "super" p0) [] [] p1) "__init__" p2) [.Name "value" p3] [] p4) none p5.line (PySem.W.envX qual scope L f (.ref c') [("__class__", cc)]) = pure false) (hi : ∀ L : Addr, interactive (PySem.W.envX qual scope L f (.ref c') [("__class__", cc)]) = false)
    (hs2 : ∀ L : Addr, swapsWith (.Name "value" p8) (some (.Attribute (.Name "self" p6) "value" p7)) p9.line (PySem.W.envX qual scope L f (.ref c') [("__class__", cc)]) = pure false)
    (hst : ∀ L : Addr, starEach [.Name "value" p3] (PySem.W.envX qual scope L f (.ref c') [("__class__", cc)]) = (false, eval (.Name "value" p3) (PySem.W.envX qual scope L f (.ref c') [("__class__", cc)])) :: starEach [] (PySem.W.envX qual scope L f (.ref c') [("__class__", cc)])) (hpl : ∀ L : Addr, (backTo p4 (starEach [] (PySem.W.envX qual scope L f (.ref c') [("__class__", cc)]))).any (·.1) = false) : FnOk P w k mg base (L2.CX P w) (n + 1) f fd ["self", "value"] (spI C) := by
  refine ⟨fun vs H Q E h => by obtain ⟨a, v, rfl, _⟩ := h; rfl, fun A outer s H args us vs Q E hr e0 hb r hsp => ?_⟩
  obtain ⟨a, v, rfl, ea, q⟩ := hsp
  obtain ⟨oc, od, dV, kV, doc, pm, an, ct, osl, rfl, lk⟩ := I0.fn
  obtain ⟨oC, vsC, file, tf, lkC, hoC, hvC, hfile⟩ := I0.file
  obtain ⟨oX, lkX, hoX⟩ := I0.cell
  obtain ⟨oD, cdD, lkD, hoD⟩ := I0.cls
  obtain ⟨nm, qn, N, bs, bm, sn, sub, ab, col, dd, k0, k1, k2, k3, k5, hCls, hbm⟩ := SC.ox.cls
  have ins : k.In s.heap := e0.mod.kin.keeps fun b o e => (e0.bs b o e).1
  have nol : s.heap.NoLimit := e0.mod.nolimit.keeps fun b o e => (e0.bs b o e).1
  refine PySem.ks_codeAny_call_defAt hr.depth (ins _ _ lk) rfl nol (PySem.W.codeRec_of ins I0.code) rfl hb S.nocell (fun y hy => S.par _ (List.of_mem_zip hy).1) (fun h1 ns kp => ?_) S.co S.gen S.kind
  have I1 := inv_lam (P := P) (w := w) (k := k) (mg := mg) (base := base) (t := ⟨qual, params, .Name "value" p3, scope, ["__class__"], []⟩) (ps := ["self", "value"]) (f := f) (c' := c') (cl := [("__class__", cc)]) (ws := [.ref D]) (E := E) (tk := s.toks + (List.zip [("self" : Str), "value"] us).length) S hr.hd e0 rfl rfl r rfl (by simp) ⟨⟨oX, _, lkX, hoX, rfl⟩, trivial⟩ ns kp
  have rm := hr.deeper (PySem.W.envX qual scope s.heap.objs.size f (.ref c') [("__class__", cc)])
  obtain ⟨hp, gs, dr, tk, os⟩ := s
  obtain ⟨pl, hev⟩ := hev hp.objs.size
  refine PySem.ks_wpAt_execs_cons (PySem.ks_wpAt_Expr_any (PySem.ks_wpAt_MethodCall (pl := pl) (PySem.ks_wpAt_super_base (f := f) (cc := c') (fd := PySem.W.ksFn "__init__" qual params _ scope dV kV doc pm an (.ref c') ct cc) hsup (S.capF _ (List.mem_cons_self ..)) (by decide) rfl (kp _ _ (ins _ _ lk)) rfl har rfl (kp _ _ (ins _ _ lkC)) hoC hvC hfile I0.top ?_) hev) (hi hp.objs.size) (hs1 hp.objs.size))
  obtain ⟨mb, b1, b2⟩ := I1.mod.blt
  refine PySem.W.ks_loadName_global S.kind hsup (Calls.loadGlobal_builtin (I1.mod.glob.keeps I1.bk) hmg (b1.keeps I1.bk) ((b2 _ (by decide)).trans hboot) ⟨rfl, ?_⟩)
  refine wpAny_loadName_free S.kind (S.capF _ (List.mem_cons_self ..)) rfl ⟨_, kp _ _ (ins _ _ lkX), hoX⟩ ?_
  rw [hself]
  have locSelf : ∀ {pins s'}, Inv (cxL P w k mg base ([("self" : Str), "value"] ++ [("__class__" : Str)]) qual scope f c' [("__class__", cc)] A outer ⟨hp, gs, dr, tk, os⟩ H E) pins (L2.start ([("self" : Str), "value"] ++ [("__class__" : Str)]) ([.ref a, v] ++ [.ref D])) H s' →
      ∃ m, s'.heap.Ns hp.objs.size m ∧ m "self" = some (.ref a) ∧ ∃ u, RelV v u ∧ m "value" = some u := fun {pins s'} I => by
    obtain ⟨m, hn, hl⟩ := I.loc
    obtain ⟨u0, r0, l0⟩ := hl 0 "self" (.ref a) rfl rfl (.inl (S.par "self" (by simp)))
    obtain ⟨u1, r1, l1⟩ := hl 1 "value" v rfl rfl (.inl (S.par "value" (by simp)))
    cases r0
    refine ⟨m, hn, ?_, u1, r1, ?_⟩
    · rcases l0 with ⟨_, hm⟩ | ⟨hk, _⟩
      · exact hm
      · have hk : scope.names.lookup ("self" : Str) = some .cell ∨ scope.names.lookup ("self" : Str) = some .free := hk
        rw [S.par "self" (by simp)] at hk
        rcases hk with hk | hk <;> cases hk
    · rcases l1 with ⟨_, hm⟩ | ⟨hk, _⟩
      · exact hm
      · have hk : scope.names.lookup ("value" : Str) = some .cell ∨ scope.names.lookup ("value" : Str) = some .free := hk
        rw [S.par "value" (by simp)] at hk
        rcases hk with hk | hk <;> cases hk
  obtain ⟨m, hn, hm, _⟩ := locSelf I1
  refine wpAny_loadName_local S.kind (S.par "self" (by simp)) hn hm ?_
  refine PySem.ks_wpAny_isType_cls (kp _ _ (ins _ _ lkD)) hoD ⟨rfl, ?_⟩
  obtain ⟨t1, ho⟩ := exo_at I1.hok ea
  refine PySem.ks_wpAny_call_super (kp _ _ (ins _ _ lkD)) hoD ho rfl (fun c z => by cases z) (PySem.W.looks_subIn I1.kIn SC.sub) fun h2 hso kp2 => ?_
  have I2 := I1.kept (t' := tk + (List.zip [("self" : Str), "value"] us).length) kp2
  have ins2 : k.In h2 := I2.kIn
  have hcl : PySem.W.clsIn k C = some { name := nm, bases := bs, mro := .ref C :: bm, ns := N, qualname := qn, hasDict := true, slotNames := sn, subclasses := sub, abstract := ab, collection := col, hasDel := false } := by unfold PySem.W.clsIn; rw [hCls] <;> rfl
  have hf := SC.sup
  unfold PySem.W.ks_superIn at hf
  rw [hcl] at hf
  have IA : PySem.W.InstAt h2 a _ C none := ⟨kp2 _ _ ho, rfl, rfl, trivial⟩
  refine PySem.W.kxs_getMethod PySem.W.kxs_ValueError hso (PySem.W.looks_opaque ins2 I0.stat) (l₀ := .ref C :: bm) (fun A Q E s k q => wpAny_bind ((PySem.W.looks_clsIn ins2 hcl) A _ E s k (wpAny_pure q))) rfl ins2 hf (IA.type.andThen (PySem.W.looks_subIn ins2 SC.veq)) (PySem.W.ks_ne ins2 IA hcl) (by decide) ?_
  have kp3 : ∀ b o, h2.get? b = some o → (h2.push (PySem.W.kxs_mw "ValueError.__init__" a)).get? b = some o := fun b o e => Heap.get?_push_of_some _ e
  have I3 := I2.kept (t' := tk + (List.zip [("self" : Str), "value"] us).length + 1) kp3
  have hu : (h2.push (PySem.W.kxs_mw "ValueError.__init__" a)).get? h2.objs.size = some (PySem.W.kxs_mw "ValueError.__init__" a) := Heap.get?_push_at rfl rfl
  obtain ⟨m3, hn3, _, u, ru, hm3⟩ := locSelf I3
  have hst' := hst hp.objs.size
  show wpAny _ _ (callWith p4 (.ref h2.objs.size) [] (backTo p4 (starEach [.Name "value" p3] (PySem.W.envX qual scope hp.objs.size f (.ref c') [("__class__", cc)]))) []) _ _ _
  rw [hst']
  refine PySem.W.kxs_callWith (i := "ValueError.__init__") (x := a) (by show (false || (backTo p4 (starEach [] (PySem.W.envX qual scope hp.objs.size f (.ref c') [("__class__", cc)]))).any (·.1)) = false; rw [hpl]; rfl) (PySem.Calls.evalArgs_plain ?_)
  show wpAny _ _ (spliced ((false, eval (.Name "value" p3) (PySem.W.envX qual scope hp.objs.size f (.ref c') [("__class__", cc)])) :: backTo p4 (starEach [] (PySem.W.envX qual scope hp.objs.size f (.ref c') [("__class__", cc)])))) _ _ _
  refine Calls.spliced_cons (wpAny_Name (wpAny_loadName_local S.kind (S.par "value" (by simp)) hn3 hm3 (Calls.spliced_nil ⟨hu, ?_⟩)) (by decide))
  refine mw_call (I3.kIn _ _ hCls) (kp3 _ _ (kp2 _ _ ho)) hu (by rw [sizeLine_eq]; simp) fun h4 t2 k4 e4 => ?_
  have I4 := I3.write (t' := tk + (List.zip [("self" : Str), "value"] us).length + 1) (x := a) (e := a) (o := exo a C none) (by rw [ea]; exact True.intro) (.inl rfl) k4 ⟨_, e4⟩ (exo_ok e4)
  have eu : upd H a (exo a C none) = H := by
    funext b
    by_cases hb : b = a
    · rw [hb, upd_same, ea]
    · rw [upd_ne hb]
  rw [eu] at I4
  refine wpAt_of_wpAny ?_
  refine wpAny_mono ((pss_one (ps_ost (pe_var (i := 0) (pos := p6) rfl (.inl (S.par "self" (by simp)))) (pe_var (i := 1) (pos := p8) rfl (.inl (S.par "value" (by simp)))) (hs2 hp.objs.size))).run [] _ _ H { nx := fun _ H' => Q .non H', rt := Q } I4
    ⟨v, rfl, .ref a, rfl, a, C, rfl, SC.ox, SC.noV, .inl ⟨ea, fun dx n ne => q dx n ne⟩⟩) ?_ ?_
  · intro fl s' hs
    cases fl with
    | ret u =>
      obtain ⟨v, σ', H', J, rv, q⟩ := hs
      exact ⟨v, H', J.os, J.bare, J.base, J.hok, rv, q⟩
    | next =>
      obtain ⟨σ', H', J, q⟩ := hs
      exact ⟨.non, H', J.os, J.bare, J.base, J.hok, rfl, q⟩
    | brk => obtain ⟨_, _, _, q⟩ := hs; exact q.elim
    | cont => obtain ⟨_, _, _, q⟩ := hs; exact q.elim
  · intro e s' hs
    exact hs
end
end Dn
end

section
set_option linter.all false
set_option autoImplicit false
set_option maxRecDepth 10000
/-! DnV: raise C(v). -/
namespace Dn
open PySem PySem.Spec PyProof.Rows L2
section
variable {X : Cx} {C : Cl} {W : WX} {cf : CallF} {pos p p1 : Pos} {B : List Nat} {a : Expr} {ea : E} {x : Str} {cA f : Addr} {n : Nat} {fd : FuncData} {ps : List Str}
/-- the object that was made is let go -/
theorem exc_hp {H : Hp} {a dx c : Addr} {fs : List (Str × V)} (n : H a = none) (ne : dx ≠ a) : upd (del (upd (upd (upd H a (exo a c none)) dx (exd dx fs)) a (exo a c (some dx))) a) dx (.xd fs) = upd H dx (.xd fs) := by
  funext b
  by_cases h : b = dx
  · rw [h, upd_same, upd_same]
  · rw [upd_ne h, upd_ne h]
    by_cases h2 : b = a
    · rw [h2, del_same, n]
    · rw [del_ne h2, upd_ne h2, upd_ne h, upd_ne h2]
theorem s_rais (G : Gd X) (tk : Takes X W) (hr : Room (n + 1) X.A) (hC : He.ga X.K x = cA) (T : OexC X.K cA) (iC : PySem.W.findIn X.K (.ref cA) "__init__" = some (some (.ref f))) (tI : PySem.W.typeIn X.K (.ref f) = some (.type "function"))
    (F1 : FnOk X.prog X.w X.K X.mg X.base (L2.CX X.prog X.w) n f fd ps (spI cA)) (hb : Binds X.K fd ps []) (hg : Gl X x) (hm : X.mg x = some (.ref cA)) (ha : PE X a (tE (kb X C) (evE cf ea))) (hs : noStar a = true := by rfl)
    (hdb : (x == ("__debug__" : Str)) = false := by decide) (hpl : (backTo p1 (starEach [] X.env)).any (·.1) = false := by rfl) :
    PS X (.Raise (some (.Call (.Name x p) [a] [] p1)) none pos) (tS (kb X C) W B (evS cf (.rais x ea))) := by
  refine PS.le (ps_raise G.calm tk (pmk_oex (dvs := []) T iC tI F1 hr hb .nil (fun _ _ _ _ e s' _ h => no_cx e s' h) hg hm (pa_cons ha pa_nil (star1 hs)) hdb (star1 hs) hpl)) ?_
  rintro D σ H ⟨Z, M, Γ, r, q⟩
  unfold evS at q
  cases e1 : evE cf ea Γ with
  | no => rw [e1] at q; exact q.elim
  | ok y Γ1 =>
    rw [e1] at q
    refine ⟨Z, M, Γ, r, y, Γ1, e1, fun v H1 M1 r1 f1 rv => ⟨by simp, fun b nb => ⟨b, v, rfl, upd_same, fun dx nd ne => ⟨rfl, dx, [("value", v)], upd_same, (upd_ne ne).trans upd_same, ?_, ?_⟩⟩⟩⟩
    · rw [upd_ne ne] at nd
      exact nd
    · rw [upd_ne ne] at nd
      rw [exc_hp nb ne]
      obtain ⟨M2, r2, f2, hp⟩ := rv.frozen r1
      obtain ⟨r3, f3, k3⟩ := r2.new nd (.xd [("value", v)])
      have q := q σ _ M2 dx r3 ((f1.trans f2).trans f3) Eqs.refl ⟨v, r2.dom nd, upd_same, Rp.mono k3 _ _ hp⟩
      rw [show He.ga (kb X C).k x = cA from hC] at q
      exact q
end
end Dn
end

section
set_option linter.all false
set_option autoImplicit false
set_option maxRecDepth 10000
/-! DnW: try: i = call(); except S as e: j = e. -/
namespace Dn
open PySem PySem.Spec PyProof.Rows L2
theorem exh_ok {P : Program} {w : World} {H : Hp} {h : Heap} {a C dx : Addr} {oe : Obj} {vs : Array Value} (e : h.get? a = some oe) (z : Zc (.ref C) (some dx) oe) (d : oe.data = .fields vs) : ObjOk P w H h a (ExH C dx a) :=
  ⟨⟨oe, vs, e, z, d⟩, ⟨oe, e⟩, fun _ _ ⟨o, v, q, r⟩ k => ⟨o, v, k o q, r⟩⟩
section
variable {X : Cx} {pins : List (Addr × Obj)} {σ : L2.St} {H : Hp} {s : Shared} {a : Addr} {o : HO}
/-- an object that came into being behind the entry is tracked -/
theorem inv_track (I : Inv X pins σ H s) (n0 : X.s_0.heap.get? a = none) (na : H a = none) (nL : a ≠ X.env.locals) (nC : ∀ x c, X.env.cells.lookup x = some c → c ≠ a) (nP : ∀ p ∈ X.pn ++ pins, p.1 ≠ a) (new : ObjOk X.prog X.w (upd H a o) s.heap a o) : Inv X pins σ (upd H a o) s := by
  have ne : ∀ {b : Addr} {u : HO}, H b = some u → b ≠ a := fun {b u} e z => by rw [z, na] at e; cases e
  refine ⟨I.ok, I.os, I.bare, ⟨I.base.keep, I.base.slot, fun b u e n x => ?_, I.base.there, fun b xs e => ?_, fun b u x e => ?_, fun b ps e => ?_⟩, I.loc, I.cell, ?_, fun x c e => ?_, fun p hp => ?_, fun b u e => ?_, I.len⟩
  · rw [upd_ne (fun z => by rw [z, n0] at e; cases e)]
    exact I.base.free b u e n x
  · have q := I.base.tups b xs e
    rw [upd_ne (ne q)]
    exact q
  · have q := I.base.frzs b u x e
    rw [upd_ne (ne q)]
    exact q
  · obtain ⟨m, q⟩ := I.base.tbls b ps e
    exact ⟨m, by rw [upd_ne (ne q)]; exact q⟩
  · rw [upd_ne nL.symm]
    exact I.free
  · rw [upd_ne (nC x c e)]
    exact I.freeC x c e
  · obtain ⟨e, n, q⟩ := I.pin p hp
    exact ⟨e, by rw [upd_ne (nP p hp)]; exact n, q⟩
  · by_cases hb : b = a
    · subst hb
      rw [upd_same] at e
      cases e
      exact new
    · rw [upd_ne hb] at e
      exact (I.hok b u e).stay (fun c v _ q => q) (fun c q => by rw [upd_ne (ne q)]; exact q) fun c xs q => by rw [upd_ne (ne q)]; exact q
theorem inv_suite (I : Inv X pins σ H s) (a : Addr) : Inv (X.suite a (X.pn ++ pins)) [] σ H s :=
  ⟨I.ok.suite _ _, I.os, I.bare, I.base, I.loc, I.cell, I.free, I.freeC, fun p hp => I.pin p (by rw [List.append_nil] at hp; exact hp), I.hok, I.len⟩
theorem inv_unsuite {a : Addr} {pn' : List (Addr × Obj)} (I : Inv (X.suite a (X.pn ++ pins)) pn' σ H s) (ok : X.Ok) : Inv X pins σ H s :=
  ⟨ok, I.os, I.bare, I.base, I.loc, I.cell, I.free, I.freeC, fun p hp => I.pin p (List.mem_append_left _ hp), I.hok, I.len⟩
end
section
variable {X : Cx} {C : Cl} {W : WX} {cf : CallF} {B : List Nat} {st : Stmt} {x n y : Str} {np pos pos' py pe pa : Pos} {S : Addr} {i j e : Nat} {xc : Xc} {cs : List Str}
/-- what the clause wishes -/
def wT (K : PySem.W.Frag) (S : Addr) (e j : Nat) (D : Ends) : WX := fun cls d σ H => ∃ C dx, cls = .ref C ∧ d = some dx ∧ PySem.W.exmOne K cls (.ref S) = some true ∧
  ∀ a, H a = none → D.nx (((σ.set e (some (.ref a))).set j (some (.ref a))).set e none) (upd H a (ExH C dx a))
theorem set_swap {σ : L2.St} {e j : Nat} {v u : Option V} (h : e ≠ j) : ((σ.set e v).set j u).set e none = wipe (σ.set j u) [e] := by
  show _ = (σ.set j u).set e none
  rw [List.set_comm _ _ h, List.set_set]
theorem le_try (hcs : ∀ c ∈ cs, PySem.W.exmOne X.K (.ref (He.ga X.K c)) (.ref S) = some true) (hej : e ≠ j) (heB : e ∉ B) (hjB : j ∉ B) {D : Ends} {σ : L2.St} {H : Hp} (h : tS (kb X C) W B (evS cf (.tryx i xc e j cs)) D σ H) :
    tS (kb X C) (wT X.K S e j D) B (evS cf (.xasg i xc)) D σ H := by
  obtain ⟨Z, M, Γ, r, q⟩ := h
  refine ⟨Z, M, Γ, r, ?_⟩
  unfold evS at q ⊢
  cases e1 : evX cf xc Γ with
  | no => rw [e1] at q; exact q
  | ok y Γ1 =>
    rw [e1] at q
    dsimp only at q ⊢
    cases e3 : store Γ1 i y.1 y.2 with
    | none => rw [e3] at q; exact q.elim
    | some Γ2 => rw [e3] at q; exact q
  | ex c d Γ1 =>
    rw [e1] at q
    dsimp only at q ⊢
    cases e2 : cs.any (fun z => z == c) with
    | false => rw [e2, if_neg Bool.false_ne_true] at q; exact q.elim
    | true =>
      rw [e2, if_pos rfl] at q
      obtain ⟨c', hm, hc⟩ := List.any_eq_true.mp e2
      have hc : c' = c := by simpa using hc
      subst hc
      cases e3 : store Γ1 j (.exc c' d) false with
      | none => rw [e3] at q; exact q.elim
      | some Γ2 =>
        rw [e3] at q
        intro σ' H' M' dx r1 f1 eq hx
        refine ⟨_, dx, rfl, rfl, hcs c' hm, fun a na => ?_⟩
        obtain ⟨w, ndx, edx, hp⟩ := hx
        obtain ⟨r2, f2, k2⟩ := r1.new na (ExH (He.ga X.K c') dx a)
        have hd : dx ≠ a := fun z => by rw [z, na] at edx; cases edx
        have hv : RVal (kb X C) Z Γ1 σ' (upd H' a (ExH (He.ga X.K c') dx a)) M' (.exc c' d) false (.ref a) :=
          ⟨a, dx, w, rfl, r1.dom na, upd_same, ndx, (upd_ne hd).trans edx, Rp.mono k2 _ _ hp⟩
        obtain ⟨r3, _⟩ := r2.store e3 hv
        rw [set_swap hej]
        exact q _ _ M' (r3.wipe [e]) (f1.trans f2) (eq.trans ((Eqs.set hjB).trans (Eqs.set heB)))
/-- try: .., the caught one is kept -/
theorem s_try (G : Gd X) (hex : X.ex = []) (hs : X.stack = X.env :: X.outer) (hf : X.env.frame = some X.env.locals) (hn : X.N[e]? = some n) (hln : X.env.kindOf n = some .local) (hy : X.N[j]? = some y) (hly : X.env.kindOf y = some .local) (hc : Names X x (.ref S))
    (hcs : ∀ c ∈ cs, PySem.W.exmOne X.K (.ref (He.ga X.K c)) (.ref S) = some true) (hej : e ≠ j) (heB : e ∉ B) (hjB : j ∉ B) (hvn : Vis X.env.scope n)
    (hsw : swapsWith (.Name n pe) (some (.Name y py)) pa.line X.env = pure false) (hnd : (n == ("__debug__" : Str)) = false) (hncd : (n == ("__classdict__" : Str)) = false)
    (hb : ∀ (W' : WX) (pn : List (Addr × Obj)) (xe : Value → Shared → Prop), Gd (X.tr pn xe) → Takes (X.tr pn xe) W' → PS (X.tr pn xe) st (tS (kb X C) W' B (evS cf (.xasg i xc)))) :
    PS X (.Try [st] [.ExceptHandler (some (.Name x np)) (some n) [.Assign [.Name y py] (.Name n pe) pa] pos'] [] [] pos) (tS (kb X C) W B (evS cf (.tryx i xc e j cs))) := by
  refine ⟨fun pins s σ H D I h0 => ?_⟩
  have h := le_try hcs hej heB hjB h0
  have ok := I.ok
  have hfr : X.A.frames = some (X.env :: X.outer) := by rw [ok.frames, hs]
  refine wpAny_Try_except ?_
  have hloc : Loc X.env.scope n := .inl hln
  have hlocy : Loc X.env.scope y := .inl hly
  refine wpAny_mono ((pss_one (hb (wT X.K S e j D) (X.pn ++ pins)
    (fun u t1 => wpAny (model X.prog X.w) X.A (noteFrame u X.env) (fun _ t2 => wpAny (model X.prog X.w) X.A (setFlight u none) (fun _ t3 => wpAny (model X.prog X.w) X.A (handleBy u X.env [.ExceptHandler (some (.Name x np)) (some n) [.Assign [.Name y py] (.Name n pe) pa] pos']) (SP X pins D) X.xe t3) X.xe t2) X.xe t1)
    ⟨G.calm, G.un, G.gd, G.nd, PassesOwn.looking⟩ (fun u s' xx => ?_))).run [] s σ H D (I.toTry _) h) (fun f s1 hsp => ?_) fun u s1 he => he
  · obtain ⟨a, gB, sI, pins', σ', H', cls, d, rfl, J', nb, up, sky, na, os, ag, c, dx, rfl, rfl, hyes, q⟩ := xx
    have J : Inv X pins σ' H' sI := J'.ofTry ok
    have sky2 : Sky gB (X.env :: X.outer) a (Zc (.ref c) (some dx)) X.env.locals s'.heap := by rw [← hs]; exact sky
    show wpAny (model X.prog X.w) X.A (noteFrame (.ref a) X.env) _ _ _
    refine Sky.land Zc.steady hfr hf sky2 fun h3 fl3 up3 => ?_
    have J3 : Inv X pins σ' H' { s' with heap := h3 } := J.landed nb fl3.1 (up.trans up3) os ag
    obtain ⟨o3, v3, he3, hz3, hd3⟩ := fl3.there
    have nfr : a ∉ frs (X.env :: X.outer) := fun hm => by
      obtain ⟨_, o', e', hnf⟩ := fl3.2.2.1.mem hm
      rw [he3] at e'
      cases e'
      exact hnf _ hd3
    have nI : sI.heap.get? a = none := by
      cases z : sI.heap.get? a with
      | none => rfl
      | some o =>
        have y := nb a o z (by rw [show (X.tr (X.pn ++ pins) _).stack = X.stack from rfl, hs]; exact nfr)
        rw [fl3.2.1] at y
        cases y
    have notI : ∀ {b : Addr} {o : Obj}, sI.heap.get? b = some o → b ≠ a := fun {b o} z w => by rw [w, nI] at z; cases z
    have n0 : X.s_0.heap.get? a = none := by
      cases z : X.s_0.heap.get? a with
      | none => rfl
      | some o =>
        obtain ⟨o', y⟩ := J.base.there a o z (by rw [hex]; exact List.not_mem_nil)
        rw [nI] at y
        cases y
    have nL : a ≠ X.env.locals := fun z => nfr (List.mem_filterMap.mpr ⟨X.env, List.mem_cons_self, by rw [hf, z]⟩)
    have nC : ∀ x c, X.env.cells.lookup x = some c → c ≠ a := fun x c z => by
      obtain ⟨_, o, ho, _⟩ := J.cell x c z
      exact notI ho
    have nP : ∀ p ∈ X.pn ++ pins, p.1 ≠ a := fun p hp => notI (J.pin p hp).1
    refine wpAny_handleBy_cons (codeAny_handlers_test ?_) (by intro z; cases z)
    have LT : PySem.W.Looks (model X.prog X.w) h3 (typeOf (.ref a)) (.ref c) := fun A Q E s k z => wpAny_typeOf_ref (k _ _ he3) (by rw [hz3.1]; exact z)
    have LM := PySem.W.exm_one (M := model X.prog X.w) J3.kIn LT hyes
    have test : ∀ {Q : Value → Shared → Prop} {E : Value → Shared → Prop}, Q (.ref S) { s' with heap := h3 } → wpAny (model X.prog X.w) (X.A.mark (some (.ref a))) (eval (.Name x np) X.env) Q E { s' with heap := h3 } := fun {Q E} z => by
      obtain ⟨hg, hdb, hm | ⟨hm, hv, hnn⟩⟩ := hc
      · exact ld_glob (inv_suite J3 a) hg hm z hdb
      · exact ld_blt (inv_suite J3 a) hg hm hv z hnn hdb
    refine test (LM.here ?_)
    refine codeAny_handlers_suite_as ?_
    refine HandSPX.lands_againZ fl3 fun h4 fl4 up4 => ?_
    have J4 : Inv X pins σ' H' { s' with heap := h4 } := J.landed nb fl4.1 ((up.trans up3).trans up4) os ag
    obtain ⟨o4, v4, he4, hz4, hd4⟩ := fl4.there
    have T4 := inv_track (o := ExH c dx a) J4 n0 na nL nC nP (exh_ok he4 hz4 hd4)
    have hlt : e < σ'.length := by rw [J.len]; exact (List.getElem?_eq_some_iff.mp hn).1
    refine store_ok (X := X.suite a (X.pn ++ pins)) (v := .ref a) (inv_suite T4 a) G.nd hn hloc rfl (fun s5 S5 => ?_) (.inr hln)
    refine wpAny_mono ((pss_one (ps_set (X := X.suite a (X.pn ++ pins)) G.nd hy hlocy (pe_var (i := e) (pos := pe) hn hvn hnd hncd) hsw (.inr hly))).run [] s5 _ _ { nx := fun σ6 H6 => D.nx (σ6.set e none) H6, rt := fun _ _ => False } S5 ⟨.ref a, List.getElem?_set_self hlt, q a na⟩) (fun f s6 hsp => ?_) (fun _ _ z => z.elim)
    cases f with
    | next =>
      obtain ⟨σ6, H6, S6, q6⟩ := hsp
      exact gone_ok (inv_unsuite S6 ok) G.nd hn hln fun s7 J7 => ⟨_, _, J7, q6⟩
    | brk => obtain ⟨_, _, _, z⟩ := hsp; exact z.elim
    | cont => obtain ⟨_, _, _, z⟩ := hsp; exact z.elim
    | ret u => obtain ⟨_, _, _, _, _, z⟩ := hsp; exact z.elim
  · cases f with
    | next =>
      obtain ⟨σ', H', J', z⟩ := hsp
      exact wpAny_execs_nil ⟨σ', H', J'.ofTry ok, z⟩
    | brk =>
      obtain ⟨σ', H', J', z⟩ := hsp
      exact ⟨σ', H', J'.ofTry ok, z⟩
    | cont =>
      obtain ⟨σ', H', J', z⟩ := hsp
      exact ⟨σ', H', J'.ofTry ok, z⟩
    | ret u =>
      obtain ⟨v, σ', H', J', r, z⟩ := hsp
      exact ⟨v, σ', H', J'.ofTry ok, r, z⟩
end
end Dn
end

section
set_option linter.all false
set_option autoImplicit false
set_option maxRecDepth 100000
/-! DnX: a caught exception's value, isinstance of it. -/
namespace Dn
open PySem PySem.Spec PyProof.Rows L2
section
open PySem.W PySem.Calls
variable {prog : Program} {w : World} {A : Around} {E : Value → Shared → Prop} {s : Shared} {K : Frag} {x D : Addr} {ox od : Obj}
/-- __class__ of an own exception that has a dict -/
theorem cls_exc {Q : Option Value → Shared → Prop} (T : ExcC K D) (X : K.In s.heap) (I : InstAt s.heap x ox D (some od)) (h : Q (some (.ref D)) { s with toks := s.toks + 1 }) : wpAny (model prog w) A (getAttr? (.ref x) "__class__") Q E s := by
  have hf : findObj K D (some od) "__class__" = some (.bind (.builtin "getset_descriptor.__get__") (.builtin "object.__class__")) := findObj_data (by obtain ⟨cd, hc, _⟩ := any_some T.hd; rw [hc]; rfl) T.ha T.hn T.ht
  obtain ⟨hp, g, d, t, os⟩ := s
  have T0 := I.type (M := model prog w)
  have T1 := looks_findIn (M := model prog w) X T.hg
  have T2 := looks_findIn (M := model prog w) X T.hk
  have T3 := looks_find (M := model prog w) X I hf
  have isB : Looks (model prog w) hp (isInstance (.ref x) (.type "BaseException")) true := T0.andThen (looks_subIn X T.hs)
  have n2 : (Value.builtin "BaseException.__getattribute__" == Value.builtin "object.__getattribute__") = false := by decide +kernel
  have n1 : (onTheHeap (Value.ref D) && Value.builtin "BaseException.__getattribute__" == Value.builtin "object.__getattribute__") = false := by rw [n2]; rfl
  unfold getAttr? getAttrBy? getAttrBy
  refine wpAny_bind (wpAny_mkText (wpAny_bind (wpAny_attempt (wpAny_holding (wpAny_bind (T0.at (wpAny_bind (T1.at ?_))))))))
  show wpAny _ _ (if (onTheHeap (Value.ref D) && Value.builtin "BaseException.__getattribute__" == Value.builtin "object.__getattribute__") = true then _ else _) _ _ _
  rw [n1, if_neg Bool.false_ne_true]
  unfold getAttrByItsOwn hookBefore
  refine wpAny_bind ?_
  rw [if_pos (show onTheHeap (Value.ref D) = true from rfl)]
  refine T2.at ?_
  refine wpAny_bind (wpAny_attempt (wpAny_holding ?_))
  unfold callGetattribute
  rw [show (false && onTheHeap (Value.builtin "BaseException.__getattribute__")) = false from rfl, if_neg Bool.false_ne_true]
  unfold boundAndCalled
  rw [PySem.F.excAttr_ValueError.ga.bind (.ref x)]
  refine wpAny_bind (wpAny_pure ?_)
  show wpAny _ _ (call (.builtin "BaseException.__getattribute__") [.ref x, .str "__class__" t]) _ _ _
  refine wpAny_call (codeAny_call_builtin PySem.F.excAttr_ValueError.ga.plain PySem.F.entry_bexc_ga ?_)
  refine @check_slot (model prog w) _ _ ⟨hp, g, d, t + 1, os⟩ "BaseException.__getattribute__" "BaseException" "__getattribute__" (.ref x) [.str "__class__" t] [] _ (by decide +kernel) (by decide +kernel) isB
    (PySem.F.args_bexc_ga (.ref x) (.str "__class__" t)) ?_
  unfold Builtin.«object.__getattribute__»
  refine wpAny_bind (wpAny_of_eq (a := ((Value.ref x : Value), [Value.str "__class__" t])) (by first | rfl | (simp only [slotArgs]; rfl)) ?_)
  refine wpAny_bind (wpAny_pure (wpAny_bind (T0.at (wpAny_bind (T3.at ?_)))))
  show wpAny _ _ (holding [Value.builtin "object.__class__"] (call (.builtin "getset_descriptor.__get__") [.builtin "object.__class__", .ref x, .ref D]) >>= ret) _ _ _
  refine wpAny_bind (wpAny_holding (wpAny_call (class_get (s := ⟨hp, g, d, t + 1, os⟩) (ox := ox) (od := some od) X I T.hm ?_)))
  refine wpAny_pure ?_
  show wpAny _ _ (handedOut (.ref D)) _ _ _
  rw [handedOut_of (v := .ref D) rfl]
  first
    | exact wpAny_pure (wpAny_pure h)
    | exact wpAny_pure h
    | exact wpAny_pure (wpAny_bind (wpAny_pure (wpAny_pure h)))
theorem kit_exc (T : ExcC K D) : KitX K (.ref x) (.ref D) (fun h => ∃ ox od, InstAt h x ox D (some od)) where
  ty := fun _ _ _ ⟨_, _, I⟩ => I.type
  it := fun _ _ X _ => by
    obtain ⟨cdD, hcD, _⟩ := any_some T.hd
    unfold clsIn at hcD
    split at hcD
    · rename_i ho
      intro A' Q' E' s' k q
      unfold isType loadHead
      exact wpAny_bind (wpAny_loadPart (k _ _ (X _ _ ho)) (wpAny_pure q))
    · cases hcD
  ne := fun h tp dd its n sl X htp => by
    obtain ⟨cdD, hcD, _⟩ := any_some T.hd
    refine Bool.eq_false_iff.mpr fun q => ?_
    have e : D = tp := Value.ref.inj (beq_iff_eq.mp q)
    subst e
    unfold clsIn at hcD
    split at hcD
    · rename_i ho
      have z := (X _ _ ho).symm.trans htp
      cases z
    · cases hcD
  ca := fun X ⟨_, _, I⟩ k => cls_exc T X I k
end
/-- one operand, then a shared value -/
def rD1s (K : KB) (f : D → Option D) : V → Hp → VK → Prop := fun x H Q => ∃ A d r, Rx K H A d x ∧ f d = some r ∧ ∀ v, Rp K H A r v → Q v H
theorem le1s {K : KB} {fa : Env → Res Hd} {g : D → Option D} : ∀ σ H Q, tE K (fun Γ => (fa Γ).bind fun x Γ1 => (liftO ((x.get Γ1).bind g) Γ1).bind fun d Γ1 => .ok (d, false) Γ1) σ H Q → tP K fa σ H fun x H1 => rD1s K g x H1 Q := by
  rintro σ H Q ⟨Z, M, Γ, r, ⟨w, fr⟩, Γ', e, q⟩
  obtain ⟨hx, Γ1, e1, e⟩ := Res.bind_ok e
  refine ⟨Z, M, Γ, r, hx, Γ1, e1, fun x H1 M1 r1 f1 v1 => ?_⟩
  cases ex : hx.get Γ1 with
  | none => rw [ex] at e; cases e
  | some d =>
    rw [ex] at e
    obtain ⟨z, Γ3, e3, e4⟩ := Res.bind_ok e
    obtain ⟨e5, rfl⟩ := liftO_ok e3
    cases e4
    exact ⟨un M1 Z, d, _, v1.rx r1 ex, e5, fun v hv => q v H1 M1 r1 f1 (by unfold RVal; rw [if_neg Bool.false_ne_true]; exact hv)⟩
section
variable {K : KB} {H : Hp} {A : AS} {c : Str} {d : D} {v : V}
theorem rx_exc (h : Rx K H A (.exc c d) v) : ∃ a dx w, v = .ref a ∧ H a = some (ExH (He.ga K.k c) dx a) ∧ H dx = some (.xd [("value", w)]) ∧ Rp K H A d w := by
  rcases h with h | ⟨a, _, o⟩
  · obtain ⟨a, dx, w, e, _, h1, _, h2, h3⟩ := h
    exact ⟨a, dx, w, e, h1, h2, h3⟩
  · exact o.elim
end
section
variable {X : Cx} {C : Cl} {cf : CallF} {pins : List (Addr × Obj)} {σ : L2.St} {H : Hp} {s : Shared} {a D dx : Addr} {w : V} {pa : P} {e : Expr} {pos p p' : Pos} {cs : List Str} {x y : Str}
theorem exc_inst (I : Inv X pins σ H s) (ea : H a = some (ExH D dx a)) (ed : H dx = some (.xd [("value", w)])) : ∃ oe od u, PySem.W.InstAt s.heap a oe D (some od) ∧ PySem.W.lookIn "value" od = some (some u) ∧ RelV w u := by
  have x1 : ObjOk X.prog X.w H s.heap a (.ext fun h => ∃ (oe : Obj) (vs : Array Value), h.get? a = some oe ∧ Zc (.ref D) (some dx) oe ∧ oe.data = .fields vs) := I.hok a _ ea
  obtain ⟨⟨oe, vs, ha, hz, hd⟩, _, _⟩ := x1
  have x2 : ObjOk X.prog X.w H s.heap dx (.xd [("value", w)]) := I.hok dx _ ed
  obtain ⟨mA, hns, hr⟩ := x2
  obtain ⟨od, ho, hl⟩ := lookIn_ns hns
  obtain ⟨u, hu, ru⟩ := RelO.some_of (v := w) (o := mA "value") (hr "value")
  exact ⟨oe, od, u, ⟨ha, hz.1, by unfold PySem.W.notCls; rw [hd] <;> rfl, by rw [hz.2]; exact ho⟩, by rw [hl, hu], ru⟩
/-- e.value -/
theorem e_exv (hcs : ∀ c ∈ cs, XfC X.K (He.ga X.K c) ∧ PySem.W.findIn X.K (.ref (He.ga X.K c)) "value" = some none) (he : PE X e (tP (kb X C) (evP cf pa))) (hb : attributeBase e "value" X.env (eval e X.env) = eval e X.env := by rfl) :
    PE X (.Attribute e "value" pos) (tE (kb X C) (evE cf (.exv pa cs))) := by
  refine ⟨fun pins s σ H Q I h => ?_⟩
  have h := tE.to (le1s (g := exvD cs)) (fun Γ r Γ' e => by unfold evE at e; exact e) σ H Q h
  refine attr_of hb (thn (he.run pins s σ H _ I h) fun u s1 hh => ?_)
  obtain ⟨v, H1, I1, rv, A, d, r, hx, hf, q⟩ := hh
  cases d with
  | exc c d =>
    unfold exvD at hf
    dsimp only at hf
    split at hf
    · rename_i hc
      cases hf
      obtain ⟨c', hm, hc⟩ := List.any_eq_true.mp hc
      have hc : c' = c := by simpa using hc
      subst hc
      obtain ⟨T, hno⟩ := hcs c' hm
      obtain ⟨a, dx, w, rfl, ea, ed, hp⟩ := rx_exc hx
      obtain rfl : u = Value.ref a := rv
      obtain ⟨oe, od, u, J, hl, ru⟩ := exc_inst I1 ea ed
      exact HandSPX.exc_get I1.kIn J T.ga T.gg T.exC (PySem.W.findObj_own T.hdC hno rfl hl) (handed_of ru) ⟨w, H1, I1.tok _, ru, q w hp⟩
    · cases hf
  | _ => cases hf
/-- isinstance(e, y), y an own class -/
theorem e_isx {S : Addr} (hcs : ∀ c ∈ cs, ExcC X.K (He.ga X.K c) ∧ PySem.W.kitOne X.K (.ref (He.ga X.K c)) (.ref S) = some (subX c y)) (he : PE X e (tP (kb X C) (evP cf pa))) (hx : x = "isinstance" := by rfl) (hg : Gl X x := by rfl) (hm : X.mg x = none := by rfl)
    (hg2 : Gl X y := by rfl) (hm2 : X.mg y = some (.ref S) := by rfl) (hs : noStar e = true := by rfl) (hdb : (y == ("__debug__" : Str)) = false := by decide) :
    PE X (.Call (.Name x p) [e, .Name y p'] [] pos) (tE (kb X C) (evE cf (.isx pa y cs))) := by
  subst hx
  have hcall : CallR X (.builtin "isinstance") (fun vs H Q => ∃ v, vs = [v, .ref S] ∧ rD1s (kb X C) (isxD cs y) v H Q) := by
    rintro pins s σ H xs us Q I rv ⟨v, rfl, A, d, r, hx, hf, q⟩
    cases rv with
    | cons rx rr =>
      cases rr with
      | cons rt rr =>
        cases rr
        cases rt
        cases d with
        | exc c d =>
          unfold isxD at hf
          dsimp only at hf
          split at hf
          · rename_i hc
            cases hf
            obtain ⟨c', hm, hc⟩ := List.any_eq_true.mp hc
            have hc : c' = c := by simpa using hc
            subst hc
            obtain ⟨T, hk⟩ := hcs c' hm
            obtain ⟨a, dx, w, rfl, ea, ed, hp⟩ := rx_exc hx
            cases rx
            obtain ⟨oe, od, u, J, _, _⟩ := exc_inst I ea ed
            exact PySem.W.kia_one (kit_exc T) I.kIn ⟨oe, od, J⟩ hk (fun z => nomatch z) fun tk => ⟨.bl (subX c' y), H, I.kept (t' := tk) fun _ _ z => z, rfl, q _ rfl⟩
          · cases hf
        | _ => cases hf
  refine PE.le (pe_callB hcall hg hm (by rfl) (pa_cons he (pa_cons (pe_glob (v := .ref S) hg2 hm2 rfl hdb) pa_nil rfl) (star1 hs)) (by decide) (by decide) (star1 hs) rfl) fun σ H Q q => ?_
  have h := tE.to (le1s (g := isxD cs y)) (fun Γ r Γ' e => by unfold evE at e; exact e) σ H Q q
  obtain ⟨Z, M, Γ, r, x, Γ1, e1, k⟩ := h
  exact ⟨Z, M, Γ, r, x, Γ1, e1, fun v H' M' r' f' hv => ⟨v, rfl, k v H' M' r' f' hv⟩⟩
end
end Dn
end

section
set_option linter.all false
set_option autoImplicit false
set_option maxRecDepth 10000
/-! DnY: calls with keywords that stand in the parameters' order. -/
namespace Dn
open PySem PySem.Spec PyProof.Rows L2
/-- the values told by name -/
structure PKL (X : Cx) (kws : List Keyword) (t : TA) : Prop where
  run : ∀ (pos : Pos) (pins : List (Addr × Obj)) (s : Shared) (σ : L2.St) (H : Hp) (Q : List V → Hp → Prop), Inv X pins σ H s → t σ H Q →
    wpAny (model X.prog X.w) X.A (evalAll ((backToKw pos (keywordEach kws X.env)).map (·.2))) (fun ws s' => ws.length = kws.length ∧ AP X pins σ Q ws s') X.xe s
theorem PKL.le {X : Cx} {kws : List Keyword} {t t' : TA} (h : PKL X kws t') (k : ∀ σ H Q, t σ H Q → t' σ H Q) : PKL X kws t := ⟨fun pos pins s σ H Q I q => h.run pos pins s σ H Q I (k σ H Q q)⟩
/-- the values told by place, then those told by name -/
structure PAK (X : Cx) (es : List Expr) (kws : List Keyword) (t : TA) : Prop where
  run : ∀ (pos : Pos) (pins : List (Addr × Obj)) (s : Shared) (σ : L2.St) (H : Hp) (Q : List V → Hp → Prop), Inv X pins σ H s → t σ H Q →
    wpAny (model X.prog X.w) X.A (spliced (backTo pos (starEach es X.env))) (fun us s1 => wpAny (model X.prog X.w) X.A (evalAll ((backToKw pos (keywordEach kws X.env)).map (·.2))) (fun ws s2 => ws.length = kws.length ∧ AP X pins σ Q (us ++ ws) s2) X.xe s1) X.xe s
section
variable {X : Cx} {C : Cl} {W : WX} {cf : CallF} {a e : Expr} {es : List Expr} {kws : List Keyword} {ea : E} {ra : As} {te : TE} {t : TA} {nm : Option Str} {kpos : Pos}
theorem PAK.le {t' : TA} (h : PAK X es kws t') (k : ∀ σ H Q, t σ H Q → t' σ H Q) : PAK X es kws t := ⟨fun pos pins s σ H Q I q => h.run pos pins s σ H Q I (k σ H Q q)⟩
theorem pak_nil (h : PKL X kws t) : PAK X [] kws t := ⟨fun pos pins s σ H Q I q => Calls.spliced_nil (h.run pos pins s σ H Q I q)⟩
theorem pak_cons (ha : PE X e te) (hr : PAK X es kws t) (hs : starEach (e :: es) X.env = (false, eval e X.env) :: starEach es X.env := by rfl) : PAK X (e :: es) kws (tCons te t) := by
  refine ⟨fun pos pins s σ H Q I h => ?_⟩
  rw [hs]
  show wpAny _ _ (spliced ((false, eval e X.env) :: backTo pos (starEach es X.env))) _ _ s
  refine Calls.spliced_cons (thn (ha.run pins s σ H _ I h) fun u s1 ⟨x, H1, I1, r1, q1⟩ => ?_)
  refine thn (hr.run pos pins s1 σ H1 _ I1 q1) fun us s2 h2 => thn h2 fun ws s3 ⟨hl, xs, H2, I2, r2, q2⟩ => ⟨hl, x :: xs, H2, I2, .cons r1 r2, q2⟩
theorem le_val : ∀ σ H Q, tA (kb X C) (evAs cf (.val ea ra)) σ H Q → tCons (tE (kb X C) (evE cf ea)) (tA (kb X C) (evAs cf ra)) σ H Q := by
  rintro σ H Q ⟨Z, M, Γ, r, l, Γ', e, q⟩
  unfold evAs at e
  obtain ⟨x, Γ1, e1, e2⟩ := Res.bind_ok e
  obtain ⟨l', Γ2, e3, e4⟩ := Res.bind_ok e2
  cases e4
  refine ⟨Z, M, Γ, r, x, Γ1, e1, fun v H1 M1 r1 f1 rv => ?_⟩
  obtain ⟨M1', r1', f1', hp⟩ := rv.frozen r1
  refine ⟨Z, M1', Γ1, r1', l', _, e3, fun vs H2 M2 r2 f2 hps => ?_⟩
  exact q (v :: vs) H2 M2 r2 ((f1.trans f1').trans f2) ⟨v, vs, rfl, Rp.mono (f2.out r1'.zm) _ _ hp, hps⟩
theorem pkl_nil : PKL X [] tNil := ⟨fun _ _ _ _ H Q I h => wpAny_evalAll_nil ⟨rfl, [], H, I, .nil, h⟩⟩
theorem pkl_cons (ha : PE X e te) (hr : PKL X kws t) : PKL X (⟨nm, e, kpos⟩ :: kws) (tCons te t) := by
  refine ⟨fun pos pins s σ H Q I h => ?_⟩
  show wpAny _ _ (evalAll ((do let v ← eval e X.env; standAt pos; pure v) :: (backToKw pos (keywordEach kws X.env)).map (·.2))) _ _ s
  refine wpAny_evalAll_cons (wpAny_bind (thn (ha.run pins s σ H _ I h) fun u s1 ⟨x, H1, I1, r1, q1⟩ => wpAny_bind (wpAny_standAt (wpAny_pure ?_))))
  exact thn (hr.run pos pins s1 σ H1 _ I1 q1) fun us s2 ⟨hl, xs, H2, I2, r2, q2⟩ => ⟨congrArg Nat.succ hl, x :: xs, H2, I2, .cons r1 r2, q2⟩
theorem k_nil : PKL X [] (tA (kb X C) (evAs cf .nil)) := by
  refine PKL.le pkl_nil ?_
  rintro σ H Q ⟨Z, M, Γ, r, l, Γ', e, q⟩
  cases e
  exact q [] H M r Fr.refl rfl
theorem k_val (ha : PE X a (tE (kb X C) (evE cf ea))) (hr : PKL X kws (tA (kb X C) (evAs cf ra))) : PKL X (⟨nm, a, kpos⟩ :: kws) (tA (kb X C) (evAs cf (.val ea ra))) := PKL.le (pkl_cons ha hr) le_val
theorem ak_nil (h : PKL X kws (tA (kb X C) (evAs cf ra))) : PAK X [] kws (tA (kb X C) (evAs cf ra)) := pak_nil h
theorem ak_val (ha : PE X a (tE (kb X C) (evE cf ea))) (hr : PAK X es kws (tA (kb X C) (evAs cf ra))) (hs : noStar a = true := by rfl) : PAK X (a :: es) kws (tA (kb X C) (evAs cf (.val ea ra))) := PAK.le (pak_cons ha hr (star1 hs)) le_val
end
/-- how a call with the names ks binds -/
def BindsK (K : PySem.W.Frag) (fd : FuncData) (ps ks : List Str) : Prop := ∀ (s : Shared) (us ws : List Value), K.In s.heap → (us ++ ws).length = ps.length → ws.length = ks.length → BindsTo s fd ⟨us, ks.zip ws⟩ (ps.zip (us ++ ws))
section
variable {X : Cx} {C : Cl} {W : WX} {cf : CallF} {a : Expr} {es : List Expr} {kws : List Keyword} {k : Nat} {f : Addr} {fd : FuncData} {ps ks : List Str} {x : Str} {p pos : Pos} {j : Nat} {ms : List Bool} {as : As} {sp : Sp}
theorem run_gk {pins : List (Addr × Obj)} {σ : L2.St} {H : Hp} {s : Shared} {Q : VK} {E : XK} {us ws : List Value} {vs : List V} (G : Gd X) (F : FnG X.prog X.w X.K X.mg X.base k f fd ps sp) (hr : Room k X.A) (hb : BindsK X.K fd ps ks)
    (hx : ∀ e s', L2.CX X.prog X.w X.stack H s E e s' → X.xe e s') (I : Inv X pins σ H s) (r : Vals vs (us ++ ws)) (hw : ws.length = ks.length) (h : sp vs H Q E) : wpAny (model X.prog X.w) X.A (PySem.call (.ref f) us (ks.zip ws)) (EP X pins σ Q) X.xe s := by
  have e := hb s us ws I.kIn (by rw [← r.length]; exact F.len _ _ _ _ h) hw
  refine wpAny_call (codeAny_mono (F.run X.A X.stack s H ⟨us, ks.zip ws⟩ (us ++ ws) vs Q E G.gd hr I.env0 e r h) fun z s' hq => ?_)
  rcases hq with ⟨u, e, c⟩ | ⟨u, e, c⟩
  · subst e
    exact I.after c
  · subst e
    exact hx u s' c
/-- f(e, .., k = v, ..) -/
theorem e_calk (G : Gd X) (hr : Room k X.A) (F : FnG X.prog X.w X.K X.mg X.base k f fd ps (spD (kb X C) (cf j) ms)) (hm : X.mg x = some (.ref f)) (hk : PySem.W.keepIn X.K (.ref f) = true) (hb : BindsK X.K fd ps ks)
    (ha : PAK X (a :: es) kws (tA (kb X C) (evAs cf as))) (hmo : modesAs as = ms := by rfl) (hg : Gl X x := by rfl) (hs : noStar a = true := by rfl) (hdb : (x == ("__debug__" : Str)) = false := by decide)
    (hall : (backToKw pos (keywordEach kws X.env)).all (·.1.isSome) = true := by rfl) (hks : (backToKw pos (keywordEach kws X.env)).filterMap (·.1) = ks := by rfl) (hkl : kws.length = ks.length := by rfl)
    (hpl : ((backTo pos (starEach (a :: es) X.env)).any (·.1) || (backToKw pos (keywordEach kws X.env)).any (·.1.isNone)) = false := by rfl) :
    PE X (.Call (.Name x p) (a :: es) kws pos) (tE (kb X C) (evE cf (.cal j as))) := by
  refine ⟨fun pins s σ H Q I h => ?_⟩
  refine wpAny_Call_Name_kw (ld_glob I hg hm ?_ hdb)
  refine PySem.W.callWith_KW (h₀ := X.base) I.ok.mod.kin hk hall (thn (ha.run pos pins s σ H _ I (call_to (E := E0) hmo σ H Q h)) fun us s1 h1 => thn h1 fun ws s2 ⟨hl, vs, H1, I1, r, q⟩ => ⟨I1.kIn, ?_⟩) hpl (star1 hs)
  rw [hks]
  exact run_gk G F hr hb no_cx I1 r (hl.trans hkl) q
theorem x_calk (G : Gd X) (tk : Takes X W) (hr : Room k X.A) (F : FnG X.prog X.w X.K X.mg X.base k f fd ps (spD (kb X C) (cf j) ms)) (hm : X.mg x = some (.ref f)) (hk : PySem.W.keepIn X.K (.ref f) = true) (hb : BindsK X.K fd ps ks)
    (ha : PAK X (a :: es) kws (tA (kb X C) (evAs cf as))) (hmo : modesAs as = ms := by rfl) (hg : Gl X x := by rfl) (hs : noStar a = true := by rfl) (hdb : (x == ("__debug__" : Str)) = false := by decide)
    (hall : (backToKw pos (keywordEach kws X.env)).all (·.1.isSome) = true := by rfl) (hks : (backToKw pos (keywordEach kws X.env)).filterMap (·.1) = ks := by rfl) (hkl : kws.length = ks.length := by rfl)
    (hpl : ((backTo pos (starEach (a :: es) X.env)).any (·.1) || (backToKw pos (keywordEach kws X.env)).any (·.1.isNone)) = false := by rfl) :
    PE X (.Call (.Name x p) (a :: es) kws pos) (tX (kb X C) W (evX cf (.cal j as))) := by
  refine ⟨fun pins s σ H Q I h => ?_⟩
  refine wpAny_Call_Name_kw (ld_glob I hg hm ?_ hdb)
  refine PySem.W.callWith_KW (h₀ := X.base) I.ok.mod.kin hk hall (thn (ha.run pos pins s σ H _ I (xcall_to hmo σ H Q h)) fun us s1 h1 => thn h1 fun ws s2 ⟨hl, vs, H1, I1, r, q⟩ => ⟨I1.kIn, ?_⟩) hpl (star1 hs)
  rw [hks]
  exact run_gk G F hr hb (wx_cx tk I1) I1 r (hl.trans hkl) q
end
end Dn
end

section
set_option linter.all false
set_option autoImplicit false
set_option maxRecDepth 10000
/-! DnZ: call sites. -/
namespace Dn
open PySem PySem.Spec PyProof.Rows L2
/-- what a call needs of a def: bound by place, by the names ks last -/
structure CalOk (P : Program) (w : World) (k : PySem.W.Frag) (mg : Str → Option Value) (base : Heap) (n : Nat) (C : Cl) (cf : CallF) (x : Str) (j : Nat) (ps : List Str) (ms : List Bool) : Prop where
  ex : ∃ (f : Addr) (fd : FuncData), mg x = some (.ref f) ∧ PySem.W.keepIn k (.ref f) = true ∧ (∀ us ws : List Value, (us ++ ws).length = ps.length → bindArgs fd ⟨us, (ps.drop us.length).zip ws⟩ = pure (ps.zip (us ++ ws))) ∧ FnG P w k mg base n f fd ps (spD ⟨k, C⟩ (cf j) ms)
theorem Binds.of_k {k : PySem.W.Frag} {fd : FuncData} {ps : List Str} (h : ∀ us ws : List Value, (us ++ ws).length = ps.length → bindArgs fd ⟨us, (ps.drop us.length).zip ws⟩ = pure (ps.zip (us ++ ws))) : Binds k fd ps [] := Binds.all fun us hl => by
  have e := h us [] (by rw [List.append_nil]; exact hl)
  rw [List.zip_nil_right, List.append_nil] at e
  exact e
theorem BindsK.of_k {k : PySem.W.Frag} {fd : FuncData} {ps ks : List Str} (h : ∀ us ws : List Value, (us ++ ws).length = ps.length → bindArgs fd ⟨us, (ps.drop us.length).zip ws⟩ = pure (ps.zip (us ++ ws))) (hs : ps.drop (ps.length - ks.length) = ks) : BindsK k fd ps ks := fun s us ws _ hl hw => by
  have e := h us ws hl
  rw [List.length_append] at hl
  rw [show us.length = ps.length - ks.length by omega, hs] at e
  exact .of_eq e
section
variable {X : Cx} {C : Cl} {W : WX} {cf : CallF} {a : Expr} {es : List Expr} {kws : List Keyword} {n : Nat} {ps ks : List Str} {x : Str} {p pos : Pos} {j : Nat} {ms : List Bool} {as : As}
theorem c_cal (O : CalOk X.prog X.w X.K X.mg X.base n C cf x j ps ms) (G : Gd X) (hr : Room n X.A) (ha : PA X (a :: es) (tA (kb X C) (evAs cf as))) (hmo : modesAs as = ms := by rfl) (hg : Gl X x := by rfl) (hs : noStar a = true := by rfl)
    (hpl : (backTo pos (starEach es X.env)).any (·.1) = false := by rfl) (hdb : (x == ("__debug__" : Str)) = false := by decide) : PE X (.Call (.Name x p) (a :: es) [] pos) (tE (kb X C) (evE cf (.cal j as))) := by
  obtain ⟨f, fd, h1, h2, h3, h4⟩ := O.ex
  exact e_cal G hr h4 h1 h2 (Binds.of_k h3) ha hmo hg hs hpl hdb
theorem c_calX (O : CalOk X.prog X.w X.K X.mg X.base n C cf x j ps ms) (G : Gd X) (tk : Takes X W) (hr : Room n X.A) (ha : PA X (a :: es) (tA (kb X C) (evAs cf as))) (hmo : modesAs as = ms := by rfl) (hg : Gl X x := by rfl) (hs : noStar a = true := by rfl)
    (hpl : (backTo pos (starEach es X.env)).any (·.1) = false := by rfl) (hdb : (x == ("__debug__" : Str)) = false := by decide) : PE X (.Call (.Name x p) (a :: es) [] pos) (tX (kb X C) W (evX cf (.cal j as))) := by
  obtain ⟨f, fd, h1, h2, h3, h4⟩ := O.ex
  exact x_cal G tk hr h4 h1 h2 (Binds.of_k h3) ha hmo hg hs hpl hdb
theorem c_calk (O : CalOk X.prog X.w X.K X.mg X.base n C cf x j ps ms) (hks : ps.drop (ps.length - ks.length) = ks) (G : Gd X) (hr : Room n X.A) (ha : PAK X (a :: es) kws (tA (kb X C) (evAs cf as))) (hmo : modesAs as = ms := by rfl) (hg : Gl X x := by rfl) (hs : noStar a = true := by rfl)
    (hdb : (x == ("__debug__" : Str)) = false := by decide) (hall : (backToKw pos (keywordEach kws X.env)).all (·.1.isSome) = true := by rfl) (hkn : (backToKw pos (keywordEach kws X.env)).filterMap (·.1) = ks := by rfl) (hkl : kws.length = ks.length := by rfl)
    (hpl : ((backTo pos (starEach (a :: es) X.env)).any (·.1) || (backToKw pos (keywordEach kws X.env)).any (·.1.isNone)) = false := by rfl) : PE X (.Call (.Name x p) (a :: es) kws pos) (tE (kb X C) (evE cf (.cal j as))) := by
  obtain ⟨f, fd, h1, h2, h3, h4⟩ := O.ex
  exact e_calk G hr h4 h1 h2 (BindsK.of_k h3 hks) ha hmo hg hs hdb hall hkn hkl hpl
end
end Dn
end

section
set_option linter.all false
set_option autoImplicit false
set_option maxRecDepth 10000
/-! DoA: list(range), a call with one new object of its own. -/
namespace Dn
open PySem PySem.Spec PyProof.Rows L2
section
variable {X : Cx} {C : Cl} {W : WX} {cf : CallF} {a b : Expr} {ea : E} {pa pb : P} {x : Str} {p pos : Pos} {n j : Nat} {ps : List Str}
/-- what a range holds -/
theorem rgV_rp {K : KB} {H : Hp} {A : AS} {i k : Int} : Rps K H A (rangeD i k) (rgV i k) := by
  unfold rangeD rgV
  have e : (List.range (k - i).toNat).map (fun q => D.int (i + (q : Nat))) = ((List.range (k - i).toNat).map (fun q => i + ((q : Nat) : Int))).map D.int := by rw [List.map_map]; rfl
  have e2 : (List.range (k - i).toNat).map (fun q => V.int (i + (q : Nat))) = ((List.range (k - i).toNat).map (fun q => i + ((q : Nat) : Int))).map V.int := by rw [List.map_map]; rfl
  rw [e, e2]
  exact Rps.ofInts _
theorem rgOk {i k : Int} (h1 : inR i = true) (h2 : inR k = true) (h3 : okLen (rangeD i k).length = true) : RgOk i k := by
  obtain ⟨a1, a2⟩ := inR_ok h1
  obtain ⟨b1, b2⟩ := inR_ok h2
  rw [rangeD_len] at h3
  have h4 := Nat.le_of_ble_eq_true h3
  exact ⟨a1, a2, b1, b2, by omega⟩
theorem lrg_ok {t : Bool} {it : I} {Γ Γ' : Env} {w : D × Bool} (e : evE cf (.lrg t it) Γ = .ok w Γ') : ∃ xs, evI cf it Γ = .ok xs Γ' ∧ okLen xs.length = true ∧ w = (if t then .tup xs else .lst xs, !t) := by
  unfold evE at e
  obtain ⟨xs, Γ1, e1, e2⟩ := Res.bind_ok e
  split at e2
  · rename_i h
    cases e2
    exact ⟨xs, e1, (Bool.and_eq_true_iff.mp h).2, rfl⟩
  · cases e2
theorem lrg_to {t : Bool} {it : I} {r : L2.St → Hp → (Int → Int → Hp → Prop) → Prop} (k : ∀ (Z : AS) (M : AS) (Γ : Env) (σ : L2.St) (H : Hp) (xs : List D) (Γ' : Env) (R : Int → Int → Hp → Prop), Rel (kb X C) Z Γ σ H M → evI cf it Γ = .ok xs Γ' → okLen xs.length = true →
    (∀ i k H' M', RgOk i k → xs = rangeD i k → Rel (kb X C) Z Γ' σ H' M' → Fr H M H' M' → R i k H') → r σ H R) :
    ∀ σ H Q, tE (kb X C) (evE cf (.lrg t it)) σ H Q → (if t then tTupRg r else tLstRg r) σ H Q := by
  rintro σ H Q ⟨Z, M, Γ, rl, w, Γ', e, q⟩
  obtain ⟨xs, e1, e2, rfl⟩ := lrg_ok e
  cases t with
  | true =>
    refine k Z M Γ σ H xs Γ' _ rl e1 e2 fun i k H' M' ok ex r' f' => ⟨ok, fun y ny => ?_⟩
    subst ex
    obtain ⟨M2, r2, f2, hv⟩ := fin (d := .tup (rangeD i k)) r' (.tup (fun a => r'.dom) ny rgV_rp)
    exact q (.ref y) _ _ r2 (f'.trans f2) hv
  | false =>
    refine k Z M Γ σ H xs Γ' _ rl e1 e2 fun i k H' M' ok ex r' f' => ⟨ok, fun y ny => ?_⟩
    subst ex
    obtain ⟨M2, r2, f2, hv⟩ := fin (d := .lst (rangeD i k)) r' (.lst ny rgV_rp)
    exact q (.ref y) _ _ r2 (f'.trans f2) hv
theorem lrg1 {t : Bool} : ∀ σ H Q, tE (kb X C) (evE cf (.lrg t (.rng1 pa))) σ H Q → (if t then tTupRg (tRg1 (tP (kb X C) (evP cf pa))) else tLstRg (tRg1 (tP (kb X C) (evP cf pa)))) σ H Q := by
  refine lrg_to fun Z M Γ σ H xs Γ' R rl e hl k => ?_
  unfold evI at e
  obtain ⟨x, Γ1, e1, e2⟩ := Res.bind_ok e
  refine ⟨Z, M, Γ, rl, x, _, e1, fun v H1 M1 r1 f1 hv => ?_⟩
  split at e2
  · rename_i i ex
    split at e2
    · rename_i hi
      cases e2
      exact ⟨i, (hv.rx r1 ex).rp rfl, k 0 i H1 M1 (rgOk (by decide) hi hl) rfl r1 f1⟩
    · cases e2
  · cases e2
theorem lrg2 {t : Bool} : ∀ σ H Q, tE (kb X C) (evE cf (.lrg t (.rng2 pa pb))) σ H Q → (if t then tTupRg (tRg2 (tP (kb X C) (evP cf pa)) (tP (kb X C) (evP cf pb))) else tLstRg (tRg2 (tP (kb X C) (evP cf pa)) (tP (kb X C) (evP cf pb)))) σ H Q := by
  refine lrg_to fun Z M Γ σ H xs Γ' R rl e hl k => ?_
  unfold evI at e
  obtain ⟨x, Γ1, e1, e2⟩ := Res.bind_ok e
  obtain ⟨y, Γ2, e3, e4⟩ := Res.bind_ok e2
  refine ⟨Z, M, Γ, rl, x, _, e1, fun v H1 M1 r1 f1 hv => ⟨Z, M1, Γ1, r1, y, _, e3, fun w H2 M2 r2 f2 hw => ?_⟩⟩
  split at e4
  · rename_i i k' ex ey
    split at e4
    · rename_i hi
      cases e4
      obtain ⟨hi, hj⟩ := Bool.and_eq_true_iff.mp hi
      exact ⟨i, k', ((hv.mono r1.zm f2).rx r2 ex).rp rfl, (hw.rx r2 ey).rp rfl, k i k' H2 M2 (rgOk hi hj hl) rfl r2 (f1.trans f2)⟩
    · cases e4
  · cases e4
theorem e_lrg1 (G : Gd X) (hgl : Gl X "list") (hml : X.mg "list" = none) (hg : Gl X "range") (hm : X.mg "range" = none) (ha : PE X a (tP (kb X C) (evP cf pa))) (hs : noStar a = true := by rfl) {p2 pos2 : Pos} :
    PE X (.Call (.Name "list" p2) [.Call (.Name "range" p) [a] [] pos] [] pos2) (tE (kb X C) (evE cf (.lrg false (.rng1 pa)))) :=
  PE.le (pe_listRg G.calm hgl hml (prg_1 hg hm ha (star1 hs)) (star1 rfl)) fun σ H Q q => lrg1 σ H Q q
theorem e_lrg2 (G : Gd X) (hgl : Gl X "list") (hml : X.mg "list" = none) (hg : Gl X "range") (hm : X.mg "range" = none) (ha : PE X a (tP (kb X C) (evP cf pa))) (hb : PE X b (tP (kb X C) (evP cf pb))) (hs : noStar a = true := by rfl) (hs' : noStar b = true := by rfl) {p2 pos2 : Pos} :
    PE X (.Call (.Name "list" p2) [.Call (.Name "range" p) [a, b] [] pos] [] pos2) (tE (kb X C) (evE cf (.lrg false (.rng2 pa pb)))) :=
  PE.le (pe_listRg G.calm hgl hml (prg_2 hg hm ha hb (star1 hs) (star1 hs') (by rw [star1 hs']; rfl)) (star1 rfl)) fun σ H Q q => lrg2 σ H Q q
theorem e_trg1 (G : Gd X) (hgl : Gl X "tuple") (hml : X.mg "tuple" = none) (hg : Gl X "range") (hm : X.mg "range" = none) (ha : PE X a (tP (kb X C) (evP cf pa))) (hs : noStar a = true := by rfl) {p2 pos2 : Pos} :
    PE X (.Call (.Name "tuple" p2) [.Call (.Name "range" p) [a] [] pos] [] pos2) (tE (kb X C) (evE cf (.lrg true (.rng1 pa)))) :=
  PE.le (pe_tupRg G.calm hgl hml (prg_1 hg hm ha (star1 hs)) (star1 rfl)) fun σ H Q q => lrg1 σ H Q q
theorem e_trg2 (G : Gd X) (hgl : Gl X "tuple") (hml : X.mg "tuple" = none) (hg : Gl X "range") (hm : X.mg "range" = none) (ha : PE X a (tP (kb X C) (evP cf pa))) (hb : PE X b (tP (kb X C) (evP cf pb))) (hs : noStar a = true := by rfl) (hs' : noStar b = true := by rfl) {p2 pos2 : Pos} :
    PE X (.Call (.Name "tuple" p2) [.Call (.Name "range" p) [a, b] [] pos] [] pos2) (tE (kb X C) (evE cf (.lrg true (.rng2 pa pb)))) :=
  PE.le (pe_tupRg G.calm hgl hml (prg_2 hg hm ha hb (star1 hs) (star1 hs') (by rw [star1 hs']; rfl)) (star1 rfl)) fun σ H Q q => lrg2 σ H Q q
end
/-! ### enumerate, zip -/
section
variable {X : Cx} {C : Cl} {cf : CallF} {a b : E} {e e2 : Expr} {p pos tpos : Pos} {elts : List Expr} {kk : Nat}
theorem RVal.lists {K : KB} {Z : AS} {Γ : Env} {σ : L2.St} {H : Hp} {A : AS} {d : D} {l : List D} {v : V} (hp : Rp K H A d v) (e : itemsL d = some l) : ∃ a vs, v = .ref a ∧ ¬ A a ∧ (H a = some (.lst vs) ∨ ∃ o, H a = some (.frz o (.lst vs))) ∧ Rps K H A l vs := by
  cases d with
  | lst ys => cases e; obtain ⟨a, vs, rfl, na, ra, ha⟩ := hp; exact ⟨a, vs, rfl, na, .inl ra, ha⟩
  | fz ys => cases e; obtain ⟨a, o, vs, rfl, na, ra, ha⟩ := hp; exact ⟨a, vs, rfl, na, .inr ⟨o, ra⟩, ha⟩
  | _ => cases e
theorem sq_of {K : PySem.W.Frag} {H : Hp} {a : Addr} {vs : List V} (h : H a = some (.lst vs) ∨ ∃ o, H a = some (.frz o (.lst vs))) : SqL K H a vs := .inl h
theorem i_enm (hg : Gl X "enumerate") (hm : X.mg "enumerate" = none) (h : PE X e (tE (kb X C) (evE cf a))) (hs : noStar e = true := by rfl) :
    PI X (.Tuple elts kk tpos) (.Call (.Name "enumerate" p) [e] [] pos) (tI (kb X C) (evI cf (.enm a))) := by
  refine PI.le (pi_enum hg hm (pa_cons h pa_nil (star1 hs)) (by rw [star1 hs]; rfl)) ?_
  rintro σ H R ⟨Z, M, Γ, r, xs, Γ', e, q⟩
  unfold evI at e
  obtain ⟨x, Γ1, e1, e2⟩ := Res.bind_ok e
  split at e2
  rotate_left
  · cases e2
  rename_i l el
  cases e2
  refine ⟨Z, M, Γ, r, x, _, e1, fun v H1 M1 r1 f1 rv => ?_⟩
  obtain ⟨M2, r2, f2, hp⟩ := rv.frozen r1
  obtain ⟨a, vs, rfl, na, ra, ha⟩ := RVal.lists (Z := Z) (Γ := Γ) (σ := σ) hp el
  exact ⟨a, vs, rfl, sq_of ra, q _ H1 M2 r2 (f1.trans f2) (dw_enum na ra ha)⟩
theorem i_zip (hg : Gl X "zip") (hm : X.mg "zip" = none) (h : PE X e (tE (kb X C) (evE cf a))) (h2 : PE X e2 (tE (kb X C) (evE cf b))) (hs : noStar e = true := by rfl) (hs2 : noStar e2 = true := by rfl) :
    PI X (.Tuple elts kk tpos) (.Call (.Name "zip" p) [e, e2] [] pos) (tI (kb X C) (evI cf (.zip2 a b))) := by
  refine PI.le (RZ.pi_zipA hg hm (pa_cons h (pa_cons h2 pa_nil (star1 hs2)) (star1 hs)) (star1 hs) (by rw [star1 hs2]; rfl)) ?_
  rintro σ H R ⟨Z, M, Γ, r, xs, Γ', e, q⟩
  unfold evI at e
  obtain ⟨x, Γ1, e1, e2⟩ := Res.bind_ok e
  obtain ⟨y, Γ2, e3, e4⟩ := Res.bind_ok e2
  obtain ⟨e5, rfl⟩ := liftO_ok e4
  refine ⟨Z, M, Γ, r, x, _, e1, fun v H1 M1 r1 f1 rv => ?_⟩
  obtain ⟨M1', r1', f1', hp⟩ := rv.frozen r1
  refine ⟨Z, M1', Γ1, r1', y, _, e3, fun w H2 M2 r2 f2 rw' => ?_⟩
  obtain ⟨M3, r3, f3, hp2⟩ := rw'.frozen r2
  have hp := Rp.mono ((f2.trans f3).out r1'.zm) _ _ hp
  have ff := ((f1.trans f1').trans f2).trans f3
  unfold zipI at e5
  split at e5
  · rename_i l m el em
    cases e5
    obtain ⟨a, vs, rfl, na, ra, ha⟩ := RVal.lists (Z := Z) (Γ := Γ) (σ := σ) hp el
    obtain ⟨b, ws, rfl, nb, rb, hb⟩ := RVal.lists (Z := Z) (Γ := Γ) (σ := σ) hp2 em
    exact ⟨a, b, vs, ws, rfl, .inl ⟨sq_of ra, sq_of rb, q _ H2 M3 r3 ff (dw_zipL' na nb ra rb ha hb)⟩⟩
  · split at e5
    · rename_i l m ex ey
      cases e5
      rw [ex] at hp
      rw [ey] at hp2
      obtain ⟨a, vs, rfl, ra, ha⟩ := hp
      obtain ⟨b, ws, rfl, rb, hb⟩ := hp2
      exact ⟨a, b, vs, ws, rfl, .inr ⟨ra.sq, rb.sq, q _ H2 M3 r3 ff (dw_zipT ra rb ha hb)⟩⟩
    · cases e5
where
  dw_zipL' {K : KB} {H0 : Hp} {A0 : AS} {a b : Addr} {xs ys : List D} {vs ws : List V} (na : ¬ A0 a) (nb : ¬ A0 b) (e : H0 a = some (.lst vs) ∨ ∃ o, H0 a = some (.frz o (.lst vs))) (e' : H0 b = some (.lst ws) ∨ ∃ o, H0 b = some (.frz o (.lst ws))) (h : Rps K H0 A0 xs vs) (h' : Rps K H0 A0 ys ws) : DW K (Itz K.k a b) H0 A0 (zipD xs ys) := by
    have hl := h.len
    have hl' := h'.len
    have sq : ∀ {c : Addr} {us : List V} {H : Hp} {A : AS}, (H0 c = some (.lst us) ∨ ∃ o, H0 c = some (.frz o (.lst us))) → ¬ A0 c → Kp H0 A0 H A → SqL K.k H c us := fun {c us H A} e nc k => by
      rcases e with e | ⟨o, e⟩
      · exact .inl (.inl (k c _ e nc).1)
      · exact .inl (.inr ⟨o, (k c _ e nc).1⟩)
    refine ⟨fun H => SqL K.k H a vs ∧ SqL K.k H b ws, YPair (fun i => vs[i]?) (fun i => ws[i]?), by rw [zip_len, hl, hl']; exact walk_zip rfl, fun H A k => ⟨sq e na k, sq e' nb k⟩, fun i H v H' A hi k dom y => ?_⟩
    obtain ⟨T, x, y, rfl, n, rfl, e1, e2⟩ := y
    obtain ⟨d, e3, hp⟩ := h.get' e1
    obtain ⟨d', e4, hp'⟩ := h'.get' e2
    exact ⟨.inr ⟨T, _, n, rfl⟩, _, zip_get e3 e4, rp_pair dom n (hp.mono k _ _) (hp'.mono k _ _)⟩
end
/-! ### one new object handed over -/
section
variable {K : KB} {Z : AS} {Γ1 : Env} {σ : L2.St} {H1 H' : Hp} {M1 M' : AS} {y : Addr} {d o : D}
theorem at_callT (r1 : Rel K Z Γ1 σ H1 M1) (hm : M1 y) (ho : Own K H1 (un M1 Z) y d) :
    (∀ a, onT K [y] a → M1 a) ∧ ArgsOk K H1 (un (onT K [y]) (fun a => Z a ∨ (M1 a ∧ ¬ onT K [y] a))) [true] [d] [.ref y] [y] ∧ (∀ a, (Z a ∨ (M1 a ∧ ¬ onT K [y] a)) → ¬ onT K [y] a) ∧ (∀ a, (Z a ∨ (M1 a ∧ ¬ onT K [y] a)) → H1 a ≠ none) ∧ (∀ a, (Z a ∨ (M1 a ∧ ¬ onT K [y] a)) → ∀ (_ : Addr) (q : Heap → Prop), H1 a ≠ some (.ext q)) := by
  have hT : ∀ a, onT K [y] a → M1 a := fun a m => by
    rcases m with m | ⟨p, hp, rfl⟩
    · rw [List.mem_singleton.mp m]; exact hm
    · exact (r1.tb p hp).1
  refine ⟨hT, ⟨rfl, ho.mono rfl fun a o e n => ⟨e, fun u => n ?_⟩, trivial⟩, fun a z => ?_, fun a z => ?_, fun a z => r1.nc a (z.elim .inr fun z => .inl z.1)⟩
  · rcases u with u | u | u
    · exact .inl (hT a u)
    · exact .inr u
    · exact .inl u.1
  · rcases z with z | z
    · exact fun m => r1.zm a z (hT a m)
    · exact z.2
  · rcases z with z | z
    · exact r1.zd a z
    · exact r1.md a z.1
/-- the caller's frame behind it -/
theorem after_callT (r1 : Rel K Z Γ1 σ H1 M1) (hm : M1 y) (ho1 : Own K H1 (un M1 Z) y d) (apy : Apart Γ1 σ y)
    (p : Post K (fun a => Z a ∨ (M1 a ∧ ¬ onT K [y] a)) [y] H1 H' M') :
    Rel K Z Γ1 σ H' (fun a => M' a ∨ (M1 a ∧ ¬ onT K [y] a)) ∧ Fr H1 M1 H' (fun a => M' a ∨ (M1 a ∧ ¬ onT K [y] a)) ∧ ∀ p, M' p → p ∉ [y] → Apart Γ1 σ p := by
  obtain ⟨hM, _, _, _, _⟩ := at_callT r1 hm ho1
  obtain ⟨f', m1, tb', m2, m3, m4⟩ := p
  have kk : ∀ a o, H1 a = some o → ¬ un M1 Z a → H' a = some o ∧ ¬ un (fun a => M' a ∨ (M1 a ∧ ¬ onT K [y] a)) Z a := fun a o e n => by
    have nr : ¬ onT K [y] a := fun m => n (.inl (hM a m))
    refine ⟨f'.kp a o e nr, fun u => ?_⟩
    rcases u with (u | u) | u
    · rcases f'.nw a u with h | h
      · exact nr h
      · rw [e] at h; cases h
    · exact n (.inl u.1)
    · exact n (.inr u)
  have mOld : ∀ {i : Nat} {s : Sl} {a : Addr}, Γ1[i]? = some s → s.isOwn = true → σ[i]? = some (some (.ref a)) → M1 a ∧ ∃ d, Own K H1 (un M1 Z) a d := fun {i s a} e so ea => by
    have z := r1.sl i s e
    cases s with
    | no => cases so
    | sh d => cases so
    | ow d => obtain ⟨b, e1, m, o⟩ := z; rw [ea] at e1; cases e1; exact ⟨m, d, o⟩
    | bo d => obtain ⟨b, e1, m, o⟩ := z; rw [ea] at e1; cases e1; exact ⟨m, d, o⟩
  have outR : ∀ {i : Nat} {s : Sl} {a : Addr}, Γ1[i]? = some s → s.isOwn = true → σ[i]? = some (some (.ref a)) → ¬ onT K [y] a := fun {i s a} e so ea m => by
    rcases m with m | ⟨p, hp, rfl⟩
    · rw [List.mem_singleton.mp m] at ea
      exact apy i s e so ea
    · obtain ⟨_, d, o⟩ := mOld e so ea
      obtain ⟨ps, e2, _⟩ := (r1.tb p hp).2
      exact o.noTab ps e2
  have ncAll : ∀ a, un (fun a => M' a ∨ (M1 a ∧ ¬ onT K [y] a)) Z a → ∀ (_ : Addr) (q : Heap → Prop), H' a ≠ some (.ext q) := fun a z c q => by
    have old : un M1 Z a → ¬ onT K [y] a → H' a ≠ some (.ext q) := fun u n => by
      have hne : H1 a ≠ none := u.elim (r1.md a) (r1.zd a)
      obtain ⟨o, ho⟩ := Option.ne_none_iff_exists'.mp hne
      rw [f'.kp a o ho n, ← ho]
      exact r1.nc a u c q
    rcases z with (z | z) | z
    · exact m4 a z c q
    · exact old (.inl z.1) z.2
    · exact old (.inr z) fun m => r1.zm a z (hM a m)
  refine ⟨⟨r1.len, fun i s e => ?_, r1.inj, fun a z => ?_, fun a z => f'.dm a (r1.zd a z), fun a m => ?_, fun p hp => ⟨.inl (tb' p hp).1, (tb' p hp).2⟩, fun a z x q => ncAll a z x q⟩, ⟨fun a o e n => f'.kp a o e fun m => n (hM a m), fun a m => ?_, f'.dm⟩, fun p mp np i s e so z => ?_⟩
  · have z := r1.sl i s e
    cases s with
    | no => trivial
    | sh d => obtain ⟨v, e1, hp⟩ := z; exact ⟨v, e1, hp.mono kk _ _⟩
    | ow d =>
      obtain ⟨b, e1, m, o⟩ := z
      have nr := outR e rfl e1
      obtain ⟨o2, ho2⟩ := Option.ne_none_iff_exists'.mp (r1.md b m)
      exact ⟨b, e1, .inr ⟨m, nr⟩, o.mono (by rw [ho2]; exact f'.kp b o2 ho2 nr) kk⟩
    | bo d =>
      obtain ⟨b, e1, m, o⟩ := z
      have nr := outR e rfl e1
      obtain ⟨o2, ho2⟩ := Option.ne_none_iff_exists'.mp (r1.md b m)
      exact ⟨b, e1, .inr ⟨m, nr⟩, o.mono (by rw [ho2]; exact f'.kp b o2 ho2 nr) kk⟩
  · intro m
    rcases m with m | m
    · exact m2 a (.inl z) m
    · exact r1.zm a z m.1
  · rcases m with m | m
    · exact m3 a m
    · exact f'.dm a (r1.md a m.1)
  · rcases m with m | m
    · rcases f'.nw a m with h | h
      · exact .inl (hM a h)
      · exact .inr h
    · exact .inl m.1
  · exact m2 p (.inr ⟨(mOld e so z).1, outR e so z⟩) mp
end
section
variable {X : Cx} {C : Cl} {cf : CallF} {a : Expr} {ea : E} {x : Str} {p pos : Pos} {n j : Nat} {ps : List Str}
/-- f(e), e a new object that f may change -/
theorem c_calT (O : CalOk X.prog X.w X.K X.mg X.base n C cf x j ps [true]) (G : Gd X) (hr : Room n X.A) (ha : PE X a (tE (kb X C) (evE cf ea))) (hg : Gl X x := by rfl) (hs : noStar a = true := by rfl)
    (hpl : (backTo pos (starEach [] X.env)).any (·.1) = false := by rfl) (hdb : (x == ("__debug__" : Str)) = false := by decide) : PE X (.Call (.Name x p) [a] [] pos) (tE (kb X C) (evE cf (.calT j ea))) := by
  obtain ⟨f, fd, h1, h2, h3, h4⟩ := O.ex
  refine ⟨fun pins s σ H Q I h => ?_⟩
  obtain ⟨Z, M, Γ, r, w, Γe, e, q⟩ := h
  unfold evE at e
  obtain ⟨r0, Γ1, e1, e⟩ := Res.bind_ok e
  split at e
  rotate_left
  · cases e
  rename_i hfr
  split at e
  rotate_left
  · cases e
  rename_i d fr o e3
  have ew : (d, fr) = w ∧ Γ1 = Γe := by cases e; exact ⟨rfl, rfl⟩
  obtain ⟨w1, w2⟩ := ew
  subst w1 w2
  clear e
  refine wpAny_Call_Name_kw (ld_glob I hg h1 ?_ hdb)
  refine PySem.W.callWith_K (h₀ := X.base) I.ok.mod.kin h2 (thn ((pa_cons ha pa_nil (star1 hs)).run pos pins s σ H (fun vs H1 => spD (kb X C) (cf j) [true] vs H1 Q E0) I ⟨Z, M, Γ, r, r0, Γ1, e1, fun v H1 M1 r1 f1 rv => ?_⟩) fun us s1 ⟨vs, H1, I1, rv, q⟩ => ⟨I1.kIn, ?_⟩) (star1 hs) hpl
  rotate_left
  · exact run_g G h4 hr (Binds.of_k h3) no_cx I1 rv q
  unfold RVal at rv
  rw [if_pos hfr] at rv
  obtain ⟨y, rfl, my, oy, apy⟩ := rv
  obtain ⟨hT, hargs, z1, z2, z3⟩ := at_callT r1 my oy
  refine ⟨_, [r0.1], [y], _, e3, hargs, by simp, z1, z2, fun p hp => (r1.tb p hp).2, z3, fun v H' M' po _ hv => ?_⟩
  obtain ⟨r2, f2, ap⟩ := after_callT r1 my oy apy po
  exact q v H' _ r2 (f1.trans f2) (val_back ap hv)
end
end Dn
end

section
set_option linter.all false
set_option autoImplicit false
set_option maxRecDepth 10000
/-! DoB: facts of the written part hold of what extends it. -/
namespace Dn
open PySem PySem.Spec PyProof.Rows L2
section
open PySem.W
variable {k k' : Frag}
abbrev Sub (k k' : Frag) : Prop := ∀ a o, k.lookup a = some o → k'.lookup a = some o
theorem nsIn_ext (x : Sub k k') {a : Addr} {y : Str} {r : Option Value} (h : nsIn k a y = some r) : nsIn k' a y = some r := by
  unfold nsIn at h ⊢
  split at h
  · rename_i e
    rw [x _ _ e]
    exact h
  · cases h
theorem ownIn_ext (x : Sub k k') {y : Str} {c : Value} {r : Option Value} (h : ownIn k y c = some r) : ownIn k' y c = some r := by
  cases c with
  | ref a =>
    unfold ownIn at h ⊢
    dsimp only at h ⊢
    split at h
    · rename_i e
      rw [x _ _ e]
      exact nsIn_ext x h
    · cases h
  | _ => exact h
theorem alongIn_ext (x : Sub k k') {y : Str} : ∀ {l : List Value} {r : Option Value}, alongIn k y l = some r → alongIn k' y l = some r
  | [], r, h => h
  | c :: l, r, h => by
    unfold alongIn at h ⊢
    split at h
    · rename_i e
      rw [ownIn_ext x e]
      exact h
    · rename_i e
      rw [ownIn_ext x e]
      exact alongIn_ext x h
    · cases h
theorem findIn_ext (x : Sub k k') {t : Value} {y : Str} {r : Option Value} (h : findIn k t y = some r) : findIn k' t y = some r := by
  cases t with
  | ref a =>
    unfold findIn at h ⊢
    dsimp only at h ⊢
    split at h
    · rename_i e
      rw [x _ _ e]
      exact alongIn_ext x h
    · cases h
  | _ => exact h
theorem clsIn_ext (x : Sub k k') {C : Addr} {cd : ClassData} (h : clsIn k C = some cd) : clsIn k' C = some cd := by
  unfold clsIn at h ⊢
  split at h
  · rename_i e
    rw [x _ _ e]
    exact h
  · cases h
theorem typeIn_ext (x : Sub k k') {v t : Value} (h : typeIn k v = some t) : typeIn k' v = some t := by
  cases v with
  | ref a =>
    unfold typeIn at h ⊢
    dsimp only at h ⊢
    obtain ⟨o, e, rfl⟩ := Option.map_eq_some_iff.mp h
    rw [x _ _ e]
    rfl
  | _ => exact h
theorem mroIn_ext (x : Sub k k') {C : Addr} {b : Value} {r : Bool} (h : mroIn k C b = some r) : mroIn k' C b = some r := by
  unfold mroIn at h ⊢
  obtain ⟨cd, e, h⟩ := Option.bind_eq_some_iff.mp h
  rw [clsIn_ext x e]
  exact h
theorem subIn_ext (x : Sub k k') {t b : Value} {r : Bool} (h : subIn k t b = some r) : subIn k' t b = some r := by
  cases t with
  | ref a => exact mroIn_ext x h
  | _ => exact h
theorem specialIn_ext (x : Sub k k') {v : Value} {y : Str} {r : Option Value} (h : specialIn k v y = some r) : specialIn k' v y = some r := by
  unfold specialIn at h ⊢
  obtain ⟨t, e, h⟩ := Option.bind_eq_some_iff.mp h
  rw [typeIn_ext x e]
  exact findIn_ext x h
theorem takesIn_ext (x : Sub k k') {v : Value} {r : Bool} (h : takesIn k v = some r) : takesIn k' v = some r := by
  unfold takesIn at h ⊢
  split at h
  · rename_i e
    rw [specialIn_ext x e]
    exact h
  · rename_i e
    rw [specialIn_ext x e]
    obtain ⟨y, e2, rfl⟩ := Option.map_eq_some_iff.mp h
    dsimp only
    rw [specialIn_ext x e2]
    rfl
  · cases h
theorem kitCls_ext (x : Sub k k') {t c : Value} {r : Bool} (h : kitCls k t c = some r) : kitCls k' t c = some r := by
  cases c with
  | ref C =>
    unfold kitCls at h ⊢
    dsimp only at h ⊢
    split at h
    · rename_i e
      obtain ⟨e1, e2⟩ := Bool.and_eq_true_iff.mp e
      obtain ⟨cd, e3⟩ := Option.isSome_iff_exists.mp e1
      have e4 : typeIn k (.ref C) = some (.type "type") := by simpa using e2
      rw [clsIn_ext x e3, typeIn_ext x e4]
      rw [if_pos (by rfl)]
      exact subIn_ext x h
    · cases h
  | type T =>
    unfold kitCls at h ⊢
    dsimp only at h ⊢
    split at h
    · rename_i e
      rw [if_pos e]
      exact subIn_ext x h
    · cases h
  | _ => cases h
theorem kitOne_ext (x : Sub k k') {t c : Value} {r : Bool} (h : kitOne k t c = some r) : kitOne k' t c = some r := by
  unfold kitOne at h ⊢
  split at h
  · rename_i e
    rw [if_pos e]
    exact h
  · rename_i e
    rw [if_neg e]
    exact kitCls_ext x h
theorem exmOne_ext (x : Sub k k') {t c : Value} {r : Bool} (h : exmOne k t c = some r) : exmOne k' t c = some r := by
  unfold exmOne at h ⊢
  split at h
  · rename_i e
    have e1 : subIn k c (.type "BaseException") = some true := by simpa using e
    rw [subIn_ext x e1, if_pos (by rfl)]
    exact kitCls_ext x h
  · cases h
theorem superIn_ext (x : Sub k k') {C D : Addr} {y : Str} {r : Option Value} (h : ks_superIn k C D y = some r) : ks_superIn k' C D y = some r := by
  unfold ks_superIn at h ⊢
  obtain ⟨cd, e, h⟩ := Option.bind_eq_some_iff.mp h
  rw [clsIn_ext x e]
  exact alongIn_ext x h
theorem hasDictIn_ext (x : Sub k k') {C : Addr} (h : hasDictIn k C = true) : hasDictIn k' C = true := by
  unfold hasDictIn at h ⊢
  cases e : clsIn k C with
  | none => rw [e] at h; cases h
  | some cd => rw [e] at h; rw [clsIn_ext x e]; exact h
theorem keepIn_ext (x : Sub k k') {f : Value} (h : keepIn k f = true) : keepIn k' f = true := by
  cases f with
  | ref a =>
    unfold keepIn at h ⊢
    dsimp only at h ⊢
    split at h
    · rename_i e
      rw [x _ _ e]
    · rename_i e
      rw [x _ _ e]
      have e1 : specialIn k (.ref a) "__call__" = some (some (.builtin "type.__call__")) := by simpa using h
      rw [specialIn_ext x e1]
      rfl
    · cases h
  | _ => cases h
theorem codeIn_ext (x : Sub k k') {cd : Value} {q : Str} (h : codeIn k cd q = true) : codeIn k' cd q = true := by
  cases cd with
  | ref c =>
    unfold codeIn at h ⊢
    dsimp only at h ⊢
    split at h
    · rename_i e
      rw [x _ _ e]
      exact h
    · cases h
  | _ => cases h
theorem ga_of (x : Sub k k') {y : Str} (h : nsIn k mainGlobals y = some (some (.ref (He.ga k y)))) : He.ga k' y = He.ga k y := by
  have e := nsIn_ext x h
  show (match nsIn k' mainGlobals y with
    | some (some (.ref a)) => a
    | _ => 0) = He.ga k y
  rw [e]
end
section
variable {k k' : PySem.W.Frag} {name qual : Str} {params : Arguments} {body : List Stmt} {scope : Scope} {f C D cc c' : Addr} {fd : FuncData} {P : Program}
theorem FunD.ext (x : Sub k k') (F : FunD k name qual params body scope [] [] f fd) : FunD k' name qual params body scope [] [] f fd := by
  obtain ⟨⟨oc, od, dV, kV, doc, pm, an, cdv, ct, osl, e1, e2, e3, e4, e5⟩, kp⟩ := F
  refine ⟨⟨oc, od, dV, kV, doc, pm, an, cdv, ct, osl, e1, x _ _ e2, codeIn_ext x e3, ?_, .inl rfl⟩, keepIn_ext x kp⟩
  rcases e4 with e4 | ⟨n, _⟩
  · exact .inl e4
  · exact absurd rfl n
theorem OexC.ext (x : Sub k k') (h : OexC k C) : OexC k' C := by
  obtain ⟨nm, q, N, bs, bm, sn, sub, ab, col, dd, k0, k1, k2, k3, k5, e1, e2⟩ := h.cls
  exact ⟨⟨nm, q, N, bs, bm, sn, sub, ab, col, dd, k0, k1, k2, k3, k5, x _ _ e1, e2⟩, findIn_ext x h.sa, subIn_ext x h.exC, typeIn_ext x h.tyC, keepIn_ext x h.kC⟩
theorem XfC.ext (x : Sub k k') (h : XfC k C) : XfC k' C := ⟨findIn_ext x h.ga, findIn_ext x h.gg, subIn_ext x h.exC, hasDictIn_ext x h.hdC⟩
theorem ExcC.ext (x : Sub k k') (h : ExcC k C) : ExcC k' C := ⟨findIn_ext x h.hg, findIn_ext x h.hk, subIn_ext x h.hs, hasDictIn_ext x h.hd, findIn_ext x h.ha, specialIn_ext x h.hn, takesIn_ext x h.ht, mroIn_ext x h.hm⟩
theorem InitK.ext (x : Sub k k') (h : InitK P k D f cc c' fd qual params body scope) : InitK P k' D f cc c' fd qual params body scope := by
  obtain ⟨oc, od, dV, kV, doc, pm, an, ct, osl, e1, e2⟩ := h.fn
  obtain ⟨oc2, vs, file, tf, f1, f2, f3, f4⟩ := h.file
  obtain ⟨oX, g1, g2⟩ := h.cell
  obtain ⟨oD, cd, h1, h2⟩ := h.cls
  exact ⟨⟨oc, od, dV, kV, doc, pm, an, ct, osl, e1, x _ _ e2⟩, codeIn_ext x h.code, ⟨oc2, vs, file, tf, x _ _ f1, f2, f3, f4⟩, ⟨oX, x _ _ g1, g2⟩, ⟨oD, cd, x _ _ h1, h2⟩, h.top, nsIn_ext x h.stat, h.dfl⟩
theorem SubK.ext (x : Sub k k') (h : SubK k D C) : SubK k' D C := ⟨OexC.ext x h.ox, subIn_ext x h.sub, superIn_ext x h.sup, subIn_ext x h.veq, findIn_ext x h.noV⟩
theorem CodeAt.ext {cd : Value} {q : Str} {c P : Addr} (x : KExt k k') (h : CodeAt k cd q c P) : CodeAt k' cd q c P := ⟨h.cd, by rw [x.ms]; exact h.inm, by rw [x.tb]; exact h.tb, by rw [x.tb]; exact h.un⟩
end
section
variable {base base' : Heap} {mg : Str → Option Value} {c P : Addr}
theorem TabB.keep (k : ∀ b o, base.get? b = some o → base'.get? b = some o) (h : LamX.TabB base mg c P) : LamX.TabB base' mg c P := by
  obtain ⟨⟨o, vs, file, tf, fl, tg, inF, tx, tt, e1, e2⟩, ⟨bm, ob, b1, b2, b3, b4, b5, b6, b7⟩, g⟩ := h
  exact ⟨⟨o, vs, file, tf, fl, tg, inF, tx, tt, k _ _ e1, e2⟩, ⟨bm, ob, b1, b2, b3, b4, k _ _ b5, b6, b7⟩, g⟩
theorem Ns.keep (k : ∀ b o, base.get? b = some o → base'.get? b = some o) {a : Addr} (h : base.Ns a mg) : base'.Ns a mg := by
  obtain ⟨o, es, ep, e1, e2⟩ := h
  exact ⟨o, es, ep, k _ _ e1, e2⟩
theorem BaseOk.keep {K : PySem.W.Frag} {K' : PySem.W.Frag} (k : ∀ b o, base.get? b = some o → base'.get? b = some o) (x : KExt K K') (inb : K'.In base') (h : BaseOk K mg base) : BaseOk K' mg base' :=
  ⟨inb, Ns.keep k h.ns, fun q hq => TabB.keep k (h.tb q (by rw [← x.ms]; exact hq))⟩
end
end Dn
end

section
set_option linter.all false
set_option autoImplicit false
set_option maxRecDepth 10000
/-! DoC: the head's further facts: constants, own exceptions. -/
namespace Dn
open PySem PySem.Spec PyProof.Rows L2

/-! ### constants -/
mutual
def cstB (K : PySem.W.Frag) : D → Value → Bool
  | .non, .none => true
  | .bl b, .bool c => b == c
  | .int i, .int j _ => decide (i = j)
  | .str x, .str y _ => decide (x = y)
  | .tup xs, .ref a => (match K.lookup a with
    | some ⟨.type c, _, .seq its _, _⟩ => decide (c = "tuple") && (decide (its.size ≤ sizeLine) && cstsB K xs its.toList)
    | _ => false)
  | _, _ => false
def cstsB (K : PySem.W.Frag) : List D → List Value → Bool
  | [], [] => true
  | d :: ds, u :: us => cstB K d u && cstsB K ds us
  | _, _ => false
end
mutual
theorem cstB_ok {K : PySem.W.Frag} : ∀ (d : D) (u : Value), cstB K d u = true → ∃ v, RelV v u ∧ ∀ (C : Cl) (H : Hp) (A : AS), Rp ⟨K, C⟩ H A d v
  | .non, u, h => by
    cases u with
    | none => exact ⟨.non, rfl, fun _ _ _ => rfl⟩
    | _ => cases h
  | .bl b, u, h => by
    cases u with
    | bool c =>
      have e : b = c := eq_of_beq (show (b == c) = true from h)
      exact ⟨.bl b, by rw [e]; rfl, fun _ _ _ => rfl⟩
    | _ => cases h
  | .int i, u, h => by
    cases u with
    | int j t =>
      have e : i = j := of_decide_eq_true h
      exact ⟨.int i, ⟨t, by rw [e]⟩, fun _ _ _ => rfl⟩
    | _ => cases h
  | .str i, u, h => by
    cases u with
    | str j t =>
      have e : i = j := of_decide_eq_true h
      exact ⟨.str i, ⟨t, by rw [e]⟩, fun _ _ _ => rfl⟩
    | _ => cases h
  | .tup xs, u, h => by
    cases u with
    | ref a =>
      unfold cstB at h
      split at h
      · rename_i c od its n sl e
        obtain ⟨h1, h2⟩ := Bool.and_eq_true_iff.mp h
        obtain ⟨h2, h3⟩ := Bool.and_eq_true_iff.mp h2
        obtain ⟨vs, rv, hp⟩ := cstsB_ok xs its.toList h3
        have h1 := of_decide_eq_true h1
        refine ⟨.ref a, rfl, fun C H A => ⟨a, vs, rfl, .inr ⟨_, its, n, e, congrArg Value.type h1, rfl, of_decide_eq_true h2, rv⟩, hp C H A⟩⟩
      · cases h
    | _ => cases h
  | .lst _, u, h => by cases u <;> cases h
  | .fz _, u, h => by cases u <;> cases h
  | .dct _ _, u, h => by cases u <;> cases h
  | .exc _ _, u, h => by cases u <;> cases h
  | .yng _ _, u, h => by cases u <;> cases h
  | .clo _ _, u, h => by cases u <;> cases h
theorem cstsB_ok {K : PySem.W.Frag} : ∀ (ds : List D) (us : List Value), cstsB K ds us = true → ∃ vs, Vals vs us ∧ ∀ (C : Cl) (H : Hp) (A : AS), Rps ⟨K, C⟩ H A ds vs
  | [], [], _ => ⟨[], .nil, fun _ _ _ => rfl⟩
  | [], _ :: _, h => by cases h
  | _ :: _, [], h => by cases h
  | d :: ds, u :: us, h => by
    obtain ⟨h1, h2⟩ := Bool.and_eq_true_iff.mp (show (cstB K d u && cstsB K ds us) = true from h)
    obtain ⟨v, r, q⟩ := cstB_ok d u h1
    obtain ⟨vs, rs, qs⟩ := cstsB_ok ds us h2
    exact ⟨v :: vs, .cons r rs, fun C H A => ⟨v, vs, rfl, q C H A, qs C H A⟩⟩
end
/-- the module's name x stands for d -/
def GCst (mg : Str → Option Value) (K : PySem.W.Frag) (x : Str) (d : D) : Prop := ∃ u v, mg x = some u ∧ RelV v u ∧ ∀ (C : Cl) (H : Hp) (A : AS), Rp ⟨K, C⟩ H A d v
def gcB (K : PySem.W.Frag) (p : Str × D) : Bool := match PySem.W.nsIn K mainGlobals p.1 with
  | some (some u) => cstB K p.2 u
  | _ => false
theorem gcB_ok {K : PySem.W.Frag} {h : Heap} {mg : Str → Option Value} (X : K.In h) (G : h.Ns mainGlobals mg) {p : Str × D} (c : gcB K p = true) : GCst mg K p.1 p.2 := by
  unfold gcB at c
  split at c
  · rename_i u e
    obtain ⟨v, r, q⟩ := cstB_ok p.2 u c
    exact ⟨u, v, PySem.W.mg_of X G e, r, q⟩
  · cases c
theorem GCst.ext {mg : Str → Option Value} {K K' : PySem.W.Frag} {x : Str} {d : D} (e : KExt K K') (hm : (K.lookup mainGlobals).isSome = true) (h : GCst mg K x d) : GCst mg K' x d := by
  obtain ⟨u, v, h1, h2, h3⟩ := h
  exact ⟨u, v, h1, h2, fun C H A => Rp.ext e hm d v (h3 C H A)⟩

/-! ### own exceptions -/
def oexB (K : PySem.W.Frag) (C : Addr) : Bool := (match K.lookup C with
  | some ⟨.type t, _, .cls cd, sl⟩ => (match cd.mro, sl.toList with
    | .ref C' :: bm, [_, _, _, _, some (.builtin n), _] => decide (t = "type") && (decide (C' = C) && (decide (n = "ValueError.__new__") && (!cd.hasDel && (cd.hasDict && PySem.HandSPX.refsVE bm))))
    | _, _ => false)
  | _ => false) && (He.eqO (PySem.W.findIn K (.ref C) "__setattr__") (some (some (.builtin "object.__setattr__"))) && (decide (PySem.W.subIn K (.ref C) (.type "BaseException") = some true) && (decide (PySem.W.typeIn K (.ref C) = some (.type "type")) && PySem.W.keepIn K (.ref C))))
theorem oexB_ok {K : PySem.W.Frag} {C : Addr} (h : oexB K C = true) : OexC K C := by
  unfold oexB at h
  obtain ⟨h1, h⟩ := Bool.and_eq_true_iff.mp h
  obtain ⟨h2, h⟩ := Bool.and_eq_true_iff.mp h
  obtain ⟨h3, h⟩ := Bool.and_eq_true_iff.mp h
  obtain ⟨h4, h5⟩ := Bool.and_eq_true_iff.mp h
  refine ⟨?_, He.eqO_ok h2, of_decide_eq_true h3, of_decide_eq_true h4, h5⟩
  split at h1
  rotate_left
  · cases h1
  rename_i t dd cd sl ho
  split at h1
  rotate_left
  · cases h1
  rename_i C' bm k0 k1 k2 k3 n k5 hm hs
  obtain ⟨t1, h1⟩ := Bool.and_eq_true_iff.mp h1
  obtain ⟨t2, h1⟩ := Bool.and_eq_true_iff.mp h1
  obtain ⟨t3, h1⟩ := Bool.and_eq_true_iff.mp h1
  obtain ⟨t4, h1⟩ := Bool.and_eq_true_iff.mp h1
  obtain ⟨t5, t6⟩ := Bool.and_eq_true_iff.mp h1
  have t1 := of_decide_eq_true t1
  have t2 := of_decide_eq_true t2
  have t3 := of_decide_eq_true t3
  subst t1 t2 t3
  obtain ⟨nm, bs, mro, ns, qn, hd, sn, sub, ab, col, del⟩ := cd
  dsimp only at hm t4 t5
  have t4 : del = false := by simpa using t4
  subst hm t4 t5
  have hsl : sl = #[k0, k1, k2, k3, some (.builtin "ValueError.__new__"), k5] := by
    obtain ⟨l⟩ := sl
    simp only at hs
    rw [hs]
  subst hsl
  exact ⟨nm, qn, ns, bs, bm, sn, sub, ab, col, dd, k0, k1, k2, k3, k5, ho, t6⟩
def excB (K : PySem.W.Frag) (C : Addr) : Bool := He.eqO (PySem.W.findIn K (.ref C) "__class__") (some (some (.builtin "object.__class__"))) && (He.eqO (PySem.W.specialIn K (.builtin "object.__class__") "__get__") (some (some (.builtin "getset_descriptor.__get__"))) &&
  (decide (PySem.W.takesIn K (.builtin "object.__class__") = some true) && decide (PySem.W.mroIn K C (.type "object") = some true)))
theorem excB_ok {K : PySem.W.Frag} {C : Addr} (x : XfC K C) (h : excB K C = true) : ExcC K C := by
  obtain ⟨h1, h⟩ := Bool.and_eq_true_iff.mp h
  obtain ⟨h2, h⟩ := Bool.and_eq_true_iff.mp h
  obtain ⟨h3, h4⟩ := Bool.and_eq_true_iff.mp h
  exact ⟨x.ga, x.gg, x.exC, x.hdC, He.eqO_ok h1, He.eqO_ok h2, of_decide_eq_true h3, of_decide_eq_true h4⟩
/-- an own class x below the root -/
structure ExF (mg : Str → Option Value) (K : PySem.W.Frag) (root x : Str) : Prop where
  gl : mg x = some (.ref (He.ga K x))
  ns : PySem.W.nsIn K mainGlobals x = some (some (.ref (He.ga K x)))
  sub : SubK K (He.ga K root) (He.ga K x)
  xf : XfC K (He.ga K x)
  ex : ExcC K (He.ga K x)
  ini : PySem.W.findIn K (.ref (He.ga K x)) "__init__" = some (some (.ref (He.ma K (He.ga K root) "__init__")))
  exm : PySem.W.exmOne K (.ref (He.ga K x)) (.ref (He.ga K root)) = some true
def exfB (K : PySem.W.Frag) (root x : Str) : Bool := He.eqO (PySem.W.nsIn K mainGlobals x) (some (some (.ref (He.ga K x)))) && (oexB K (He.ga K x) && (decide (PySem.W.subIn K (.ref (He.ga K x)) (.ref (He.ga K root)) = some true) && (He.eqO (PySem.W.ks_superIn K (He.ga K x) (He.ga K root) "__init__") (some (some (.builtin "ValueError.__init__"))) &&
  (decide (PySem.W.subIn K (.ref (He.ga K x)) (.type "ValueError") = some true) && (He.eqO (PySem.W.findIn K (.ref (He.ga K x)) "value") (some none) && (xfB K (He.ga K x) && (excB K (He.ga K x) && (He.eqO (PySem.W.findIn K (.ref (He.ga K x)) "__init__") (some (some (.ref (He.ma K (He.ga K root) "__init__")))) &&
  decide (PySem.W.exmOne K (.ref (He.ga K x)) (.ref (He.ga K root)) = some true)))))))))
theorem exfB_ok {K : PySem.W.Frag} {h : Heap} {mg : Str → Option Value} (X : K.In h) (G : h.Ns mainGlobals mg) {root x : Str} (c : exfB K root x = true) : ExF mg K root x := by
  unfold exfB at c
  obtain ⟨h1, c⟩ := Bool.and_eq_true_iff.mp c
  obtain ⟨h2, c⟩ := Bool.and_eq_true_iff.mp c
  obtain ⟨h3, c⟩ := Bool.and_eq_true_iff.mp c
  obtain ⟨h4, c⟩ := Bool.and_eq_true_iff.mp c
  obtain ⟨h5, c⟩ := Bool.and_eq_true_iff.mp c
  obtain ⟨h6, c⟩ := Bool.and_eq_true_iff.mp c
  obtain ⟨h7, c⟩ := Bool.and_eq_true_iff.mp c
  obtain ⟨h8, c⟩ := Bool.and_eq_true_iff.mp c
  obtain ⟨h9, h10⟩ := Bool.and_eq_true_iff.mp c
  have xf := xfB_ok h7
  exact ⟨PySem.W.mg_of X G (He.eqO_ok h1), He.eqO_ok h1, ⟨oexB_ok h2, of_decide_eq_true h3, He.eqO_ok h4, of_decide_eq_true h5, He.eqO_ok h6⟩, xf, excB_ok xf h8, He.eqO_ok h9, of_decide_eq_true h10⟩
/-- isinstance between own classes -/
def kitB (K : PySem.W.Frag) (xs : List Str) : Bool := xs.all fun x => xs.all fun y => decide (PySem.W.kitOne K (.ref (He.ga K x)) (.ref (He.ga K y)) = some (subX x y))
theorem kitB_ok {K : PySem.W.Frag} {xs : List Str} (h : kitB K xs = true) {x y : Str} (hx : x ∈ xs) (hy : y ∈ xs) : PySem.W.kitOne K (.ref (He.ga K x)) (.ref (He.ga K y)) = some (subX x y) :=
  of_decide_eq_true (List.all_eq_true.mp (List.all_eq_true.mp h x hx) y hy)
/-- the root's __init__ -/
abbrev InV : Type := Option (Str × Str × Arguments × FuncBody × Scope × Addr × List Str × Addr)
def inW (K : PySem.W.Frag) (root : Str) : InV := match K.lookup (He.ma K (He.ga K root) "__init__") with
  | some ⟨_, _, .func fd, _⟩ => some (fd.name, fd.qualname, fd.params, fd.body, fd.scope, fd.globals, fd.closure.map (·.1), fd.builtins)
  | _ => none
structure IniD where
  qual : Str
  params : Arguments
  body : List Stmt
  scope : Scope
def IniD.val (d : IniD) : InV := some ("__init__", d.qual, d.params, .stmts d.body, d.scope, mainGlobals, ["__class__"], builtinsNs)
def iniB (P : Program) (K : PySem.W.Frag) (root qual : Str) : Bool := (match K.lookup (He.ma K (He.ga K root) "__init__") with
  | some ⟨_, _, .func fd, _⟩ => (match fd.code, fd.closure, fd.defaults with
    | .ref c', [(_, cc)], .none => PySem.W.codeIn K (.ref c') qual && ((match K.lookup c' with
      | some ⟨_, _, .fields vs, _⟩ => (match (vs[2]? : Option Value) with
        | some (.str file _) => (P.main.file : Str) == file
        | _ => false)
      | _ => false) && (match K.lookup cc with
      | some ⟨_, _, .cell (some (.ref D)), _⟩ => decide (D = He.ga K root)
      | _ => false))
    | _, _, _ => false)
  | _ => false) && ((PySem.W.clsIn K (He.ga K root)).isSome && (decide (PySem.W.typeIn K (.ref (He.ma K (He.ga K root) "__init__")) = some (.type "function")) && He.eqO (PySem.W.nsIn K cStatics "thirdparty.any") (some none)))
theorem ini_ok {P : Program} {K : PySem.W.Frag} {root : Str} {d : IniD} (e : inW K root = d.val) (c : iniB P K root d.qual = true) (htop : (P.main.scope.names.lookup ("super" : Str)).isSome = false) :
    PySem.W.typeIn K (.ref (He.ma K (He.ga K root) "__init__")) = some (.type "function") ∧ ∃ cc c' fd, InitK P K (He.ga K root) (He.ma K (He.ga K root) "__init__") cc c' fd d.qual d.params d.body d.scope := by
  unfold iniB at c
  obtain ⟨c1, c⟩ := Bool.and_eq_true_iff.mp c
  obtain ⟨c2, c⟩ := Bool.and_eq_true_iff.mp c
  obtain ⟨c3, c4⟩ := Bool.and_eq_true_iff.mp c
  refine ⟨of_decide_eq_true c3, ?_⟩
  unfold inW at e
  split at c1
  rotate_left
  · cases c1
  rename_i oc od fd osl hf
  rw [hf] at e
  split at c1
  rotate_left
  · cases c1
  rename_i c' nm cc hcode hclo hdfl
  obtain ⟨d1, c1⟩ := Bool.and_eq_true_iff.mp c1
  obtain ⟨d2, d3⟩ := Bool.and_eq_true_iff.mp c1
  obtain ⟨n1, n2, n3, n4, n5, n6, n7, n8, n9, n10, n11, n12, n13, n14, n15⟩ := fd
  dsimp only at hcode hclo hdfl e
  subst hcode hclo hdfl
  have e2 : (some (n1, n2, n3, n4, n5, n6, [nm], n15) : InV) = (some ("__init__", d.qual, d.params, .stmts d.body, d.scope, mainGlobals, ["__class__"], builtinsNs) : InV) := e
  simp only [Option.some.injEq, Prod.mk.injEq, List.cons.injEq] at e2
  obtain ⟨h1, h2, h3, h4, h5, h6, ⟨h7, _⟩, h8⟩ := e2
  subst h1 h2 h3 h4 h5 h6 h7 h8
  obtain ⟨cd, hcd⟩ := Option.isSome_iff_exists.mp c2
  refine ⟨cc, c', _, ⟨⟨oc, od, _, _, _, _, _, _, osl, rfl, hf⟩, d1, ?_, ?_, ?_, htop, He.eqO_ok c4, rfl⟩⟩
  · split at d2
    · rename_i oc2 od2 vs sl2 h2
      split at d2
      · rename_i file tf hv
        exact ⟨_, vs, file, tf, h2, rfl, hv, d2⟩
      · cases d2
    · cases d2
  · split at d3
    · rename_i oc3 od3 D sl3 h3
      exact ⟨_, h3, by rw [of_decide_eq_true d3]⟩
    · cases d3
  · unfold PySem.W.clsIn at hcd
    split at hcd
    · rename_i o2 cd2 sl2 h4
      exact ⟨_, _, h4, rfl⟩
    · cases hcd
/-! ### the Hook -/
/-- each def has a table of its own -/
def tabG (K : PySem.W.Frag) : Bool := (K.all fun p => match p.2.data with
  | .func fd => (fd.name == ("<lambda>" : Str)) || (match fd.code with
    | .ref c => (tabOf K (.ref c)).isSome
    | _ => true)
  | _ => true) && decide ((tabs K).map (·.1)).Nodup
/-- what a law's head has to tell -/
structure Hx where
  xs : List Str
  csts : List (Str × D)
  root : Str
  excs : List Str
  ini : IniD
  fa : List He.Fa
  fn : List He.DefD
abbrev AlX : Type := Bool × InV × AlN
def Hx.ex (x : Hx) (P : Program) (K : PySem.W.Frag) : Bool := (x.csts.all (gcB K)) && ((x.excs.all (exfB K x.root)) && (kitB K x.excs && (iniB P K x.root x.ini.qual && (tabG K && (PySem.W.nsIn K mainGlobals x.root).isSome))))
def obsXK (P : Program) (x : Hx) (g : Addr → Option Obj) (K : PySem.W.Frag) : AlX := (x.ex P K, inW K x.root, obsK g x.fa x.fn K)
def obsX (P : Program) (x : Hx) (g : Addr → Option Obj) : AlX := forceF (He.frG g (asN g x.xs)) (obsXK P x g)
structure SaysX (P : Program) (x : Hx) (K : PySem.W.Frag) (h : Heap) : Prop where
  n : SaysN x.fa x.fn K h
  ex : x.ex P K = true
  ini : inW K x.root = x.ini.val
def hookX (P : Program) (x : Hx) : PySem.W.Hook where
  α := AlX
  obs := fun s => obsX P x s.heap.get?
  val := fun _ => (true, x.ini.val, true, true, He.valD x.fn)
  says := fun _ h => ∃ K : PySem.W.Frag, K.In h ∧ SaysX P x K h
  of := fun _ s e => ⟨He.frG s.heap.get? (asN s.heap.get? x.xs), He.frG_in, by
    unfold obsX at e
    rw [forceF_eq] at e
    have e0 := congrArg (fun z : AlX => z.1) e
    have e1 := congrArg (fun z : AlX => z.2.1) e
    have e2 := congrArg (fun z : AlX => z.2.2.2.1) e
    have e2 : tabB s.heap.get? (He.frG s.heap.get? (asN s.heap.get? x.xs)) = true := e2
    unfold tabB at e2
    obtain ⟨e3, e4⟩ := Bool.and_eq_true_iff.mp e2
    exact ⟨⟨congrArg (fun z : AlX => z.2.2.1) e, fun p hp => emT_ok (List.all_eq_true.mp e3 p hp), fun q hq => List.all_eq_true.mp e4 q hq, congrArg (fun z : AlX => z.2.2.2.2) e⟩, e0, e1⟩⟩
  keeps := fun _ _ _ ⟨K, hK, c, e, i⟩ k => ⟨K, PySem.W.Frag.In.keeps hK k, ⟨c.no, fun p hp => k _ _ (c.tb p hp), c.cd, c.all⟩, e, i⟩
theorem obsX_eq {P : Program} {x : Hx} {g : Addr → Option Obj} {s : Shared} (h : ∀ a, g a = s.heap.get? a) : obsX P x g = (hookX P x).obs s := by
  have e : g = s.heap.get? := funext h
  rw [e]
  rfl
/-- a law, by its def's run on the script's data -/
theorem walk_x {l : PySem.W.OpenLaw} {n k : Nat} {q : Program} {loose : List Str} {XP : (Str → Option Value) → Heap → Prop} {hx : Hx} {d : DefRec} {x : Str} {C : Cl} {g : List D → Option Oc}
    (hn : l.most = some n) (hn2 : n ≤ sizeLine) (hdf : d.params.defaults = []) (hr : Room k callerA)
    (F : ∀ (w : World) (mg : Str → Option Value) (f : Addr) (h : Heap) (K : PySem.W.Frag), K.In h → SaysX l.prog hx K h → h.Ns mainGlobals mg → mg d.name = some (.ref f) →
      ∃ fd : FuncData, (∀ (s : Shared) (u : Value), BindsTo s fd ⟨[u], []⟩ [(x, u)]) ∧ ∀ base : Heap, BaseOk K mg base → FnG l.prog w K mg base k f fd [x] (spD ⟨K, C⟩ g [false]))
    (hlaw : ∀ ns : List Int, ns.length ≤ n → (∀ k ∈ ns, Builtin.Int.intBits k ≤ 1048576) → g [scr ns] = some (.ok (.bl true) false [])) :
    PySem.W.WalkO q loose XP (hookX l.prog hx).says l.row.toRowW d [] (fun f vs => PySem.call f vs) := by
  refine Att.attach_callB hn hdf fun w s₀ s₁ mg mb f o pm cd doc a vs ns G Y ho hd hcd hmg hobj hints hlen hbits hg => ?_
  obtain ⟨K, KX, Y0⟩ := Y
  obtain ⟨fd, hb, hF⟩ := F w mg f _ K KX Y0 G.T.g hmg
  have Y := Y0.n
  refine law_g KX Y.no Y.tb Y.cd G.T.g G.T.b G.T.builtins G.T.nolimit hg G.T.bmain hobj hints (Nat.le_trans hlen hn2) hr hF hb fun aT => ?_
  have nT : ∀ {b : Addr}, onT ⟨K, C⟩ [] b → b ∈ (tabs K).map (·.1) := fun {b} m => by
    rcases m with m | ⟨p, hp, e⟩
    · cases m
    · exact List.mem_map.mpr ⟨p, hp, e⟩
  refine ⟨fun _ => False, [scr ns], [], _, hlaw ns hlen hbits, ⟨?_, trivial⟩, .nil, fun _ h => h.elim, fun _ h => h.elim, fun p hp => LamX.TabS.nil (hpS_tab (fun z => aT (by rw [← z]; exact List.mem_map.mpr ⟨p, hp, rfl⟩)) (List.mem_map.mpr ⟨p, hp, rfl⟩)), fun _ h => h.elim, fun v H' M' _ _ hv => hv⟩
  refine ⟨a, _, ns.map V.int, rfl, fun u => ?_, hpS_at, Rps.ofInts ns⟩
  rcases u with u | u
  · exact aT (nT u)
  · exact u
end Dn
end

section
set_option linter.all false
set_option autoImplicit false
set_option maxRecDepth 10000
/-! DoD: a program's defs and lambdas as data; the rules by one setting. -/
namespace Dn
open PySem PySem.Spec PyProof.Rows L2

structure Dd where
  x : Str
  ps : List Str
  df : Df
structure Prg where
  defs : List Dd
  lams : List (Lam × List Str × Df)
  blts : List Str
  csts : List (Str × D)
  root : Str
  excs : List Str
def Prg.dfOf (p : Prg) : Nat → Option Df := fun j => match p.defs[j]? with
  | some d => some d.df
  | none => (p.lams[j - p.defs.length]?).map (·.2.2)
def Prg.lamOf (p : Prg) : Nat → Option Lam := fun j => if j < p.defs.length then none else (p.lams[j - p.defs.length]?).map (·.1)
abbrev Prg.cl (p : Prg) (cells : List (Str × Addr)) : Cl := ⟨cells, p.lamOf⟩

/-- what the head says of names -/
structure HeadF (pr : Prg) (P : Program) (w : World) (k0 : PySem.W.Frag) (mg : Str → Option Value) : Prop where
  blt : ∀ x ∈ pr.blts, mg x = none
  cst : ∀ q ∈ pr.csts, GCst mg k0 q.1 q.2
  exc : ∀ x ∈ pr.excs, ExF mg k0 pr.root x
  kit : ∀ x ∈ pr.excs, ∀ y ∈ pr.excs, PySem.W.kitOne k0 (.ref (He.ga k0 x)) (.ref (He.ga k0 y)) = some (subX x y)
  mgl : (k0.lookup mainGlobals).isSome = true
  ini : pr.excs ≠ [] → PySem.W.typeIn k0 (.ref (He.ma k0 (He.ga k0 pr.root) "__init__")) = some (.type "function") ∧ ∃ fd, ∀ k base, KExt k0 k → (∀ x ∈ pr.excs, FnOk P w k mg base (L2.CX P w) 1 (He.ma k0 (He.ga k0 pr.root) "__init__") fd ["self", "value"] (spI (He.ga k0 x))) ∧ Binds k fd ["self", "value"] []
  rt : pr.excs ≠ [] → pr.root ∈ pr.excs
/-- all defs, all lambdas keep their promises at depth n -/
def AllN (pr : Prg) (P : Program) (w : World) (k0 : PySem.W.Frag) (mg : Str → Option Value) (n : Nat) (cf : CallF) : Prop := ∀ (k : PySem.W.Frag) (base : Heap), KExt k0 k → BaseOk k mg base → ∀ cells : List (Str × Addr),
  (∀ j d, pr.defs[j]? = some d → CalOk P w k mg base (n + 2) (pr.cl cells) cf d.x j d.ps d.df.modes) ∧ ∀ j, LamG P w k mg base (n + 2) (pr.cl cells) cf j
/-- the setting of a frame -/
structure Ax (pr : Prg) (k0 : PySem.W.Frag) (X : Cx) (cells : List (Str × Addr)) (cf : CallF) (n : Nat) : Prop where
  G : Gd X
  hr : Room (n + 2) X.A
  ext : KExt k0 X.K
  bok : BaseOk X.K X.mg X.base
  all : AllN pr X.prog X.w k0 X.mg n cf
  len : ∀ j d, pr.defs[j]? = some d → ∀ ds oc, cf j ds = some oc → ds.length = d.df.modes.length
  hd : HeadF pr X.prog X.w k0 X.mg
section
variable {pr : Prg} {k0 : PySem.W.Frag} {X : Cx} {L : List (Str × Addr)} {cf : CallF} {n : Nat}
theorem Ax.blk (A : Ax pr k0 X L cf n) {s : Shared} {H : Hp} {Ca : Addr} {cl : List (Str × Addr)} {fp : List Addr} {scope : Scope} : Ax pr k0 (X.blk s H scope (compEnvC scope cl Ca X.env) fp) L cf n := ⟨A.G.blk, A.hr, A.ext, A.bok, A.all, A.len, A.hd⟩
theorem Ax.tr (A : Ax pr k0 X L cf n) {pn : List (Addr × Obj)} {xe : Value → Shared → Prop} (G : Gd (X.tr pn xe)) : Ax pr k0 (X.tr pn xe) L cf n := ⟨G, A.hr, A.ext, A.bok, A.all, A.len, A.hd⟩
theorem Ax.cal (A : Ax pr k0 X L cf n) (j : Nat) {d : Dd} (h : pr.defs[j]? = some d) : CalOk X.prog X.w X.K X.mg X.base (n + 2) (pr.cl L) cf d.x j d.ps d.df.modes := (A.all X.K X.base A.ext A.bok L).1 j d h
theorem Ax.lam (A : Ax pr k0 X L cf n) : ∀ j, LamG X.prog X.w X.K X.mg X.base (n + 2) (pr.cl L) cf j := (A.all X.K X.base A.ext A.bok L).2
variable {a b c : Expr} {es : List Expr} {kws : List Keyword} {ks : List Str} {pos p p2 pos2 tpos : Pos} {as : As} {W : WX} {x y : Str} {ea eb : E} {pa pb pc : P} {tg : Expr} {elts : List Expr} {kk : Nat} {B : List Nat}
/-! calls -/
theorem q_cal (A : Ax pr k0 X L cf n) (j : Nat) (d : Dd) (h : pr.defs[j]? = some d) (ha : PA X (a :: es) (tA (kb X (pr.cl L)) (evAs cf as))) (hmo : modesAs as = d.df.modes := by rfl) (hg : Gl X d.x := by rfl) (hs : noStar a = true := by rfl)
    (hpl : (backTo pos (starEach es X.env)).any (·.1) = false := by rfl) (hdb : (d.x == ("__debug__" : Str)) = false := by decide) : PE X (.Call (.Name d.x p) (a :: es) [] pos) (tE (kb X (pr.cl L)) (evE cf (.cal j as))) :=
  c_cal (A.cal j h) A.G A.hr ha hmo hg hs hpl hdb
theorem q_cal0 (A : Ax pr k0 X L cf n) (j : Nat) (d : Dd) (h : pr.defs[j]? = some d) (hmo : [] = d.df.modes := by rfl) (hg : Gl X d.x := by rfl) (hdb : (d.x == ("__debug__" : Str)) = false := by decide) :
    PE X (.Call (.Name d.x p) [] [] pos) (tE (kb X (pr.cl L)) (evE cf (.cal j .nil))) := by
  obtain ⟨f, fd, h1, h2, h3, h4⟩ := (A.cal j h).ex
  exact e_cal0 A.G A.hr (by rw [hmo]; exact h4) h1 h2 (Binds.of_k h3) hg hdb
theorem q_calX (A : Ax pr k0 X L cf n) (tk : Takes X W) (j : Nat) (d : Dd) (h : pr.defs[j]? = some d) (ha : PA X (a :: es) (tA (kb X (pr.cl L)) (evAs cf as))) (hmo : modesAs as = d.df.modes := by rfl) (hg : Gl X d.x := by rfl) (hs : noStar a = true := by rfl)
    (hpl : (backTo pos (starEach es X.env)).any (·.1) = false := by rfl) (hdb : (d.x == ("__debug__" : Str)) = false := by decide) : PE X (.Call (.Name d.x p) (a :: es) [] pos) (tX (kb X (pr.cl L)) W (evX cf (.cal j as))) :=
  c_calX (A.cal j h) A.G tk A.hr ha hmo hg hs hpl hdb
theorem q_calk (A : Ax pr k0 X L cf n) (j : Nat) (d : Dd) (h : pr.defs[j]? = some d) (ks : List Str) (ha : PAK X (a :: es) kws (tA (kb X (pr.cl L)) (evAs cf as))) (hks : d.ps.drop (d.ps.length - ks.length) = ks := by rfl) (hmo : modesAs as = d.df.modes := by rfl) (hg : Gl X d.x := by rfl) (hs : noStar a = true := by rfl)
    (hdb : (d.x == ("__debug__" : Str)) = false := by decide) (hall : (backToKw pos (keywordEach kws X.env)).all (·.1.isSome) = true := by rfl) (hkn : (backToKw pos (keywordEach kws X.env)).filterMap (·.1) = ks := by rfl) (hkl : kws.length = ks.length := by rfl)
    (hpl : ((backTo pos (starEach (a :: es) X.env)).any (·.1) || (backToKw pos (keywordEach kws X.env)).any (·.1.isNone)) = false := by rfl) : PE X (.Call (.Name d.x p) (a :: es) kws pos) (tE (kb X (pr.cl L)) (evE cf (.cal j as))) :=
  c_calk (A.cal j h) hks A.G A.hr ha hmo hg hs hdb hall hkn hkl hpl
theorem q_calkX (A : Ax pr k0 X L cf n) (tk : Takes X W) (j : Nat) (d : Dd) (h : pr.defs[j]? = some d) (ks : List Str) (ha : PAK X (a :: es) kws (tA (kb X (pr.cl L)) (evAs cf as))) (hks : d.ps.drop (d.ps.length - ks.length) = ks := by rfl) (hmo : modesAs as = d.df.modes := by rfl) (hg : Gl X d.x := by rfl) (hs : noStar a = true := by rfl)
    (hdb : (d.x == ("__debug__" : Str)) = false := by decide) (hall : (backToKw pos (keywordEach kws X.env)).all (·.1.isSome) = true := by rfl) (hkn : (backToKw pos (keywordEach kws X.env)).filterMap (·.1) = ks := by rfl) (hkl : kws.length = ks.length := by rfl)
    (hpl : ((backTo pos (starEach (a :: es) X.env)).any (·.1) || (backToKw pos (keywordEach kws X.env)).any (·.1.isNone)) = false := by rfl) : PE X (.Call (.Name d.x p) (a :: es) kws pos) (tX (kb X (pr.cl L)) W (evX cf (.cal j as))) := by
  obtain ⟨f, fd, h1, h2, h3, h4⟩ := (A.cal j h).ex
  exact x_calk A.G tk A.hr h4 h1 h2 (BindsK.of_k h3 hks) ha hmo hg hs hdb hall hkn hkl hpl
theorem q_calT (A : Ax pr k0 X L cf n) (j : Nat) (d : Dd) (h : pr.defs[j]? = some d) (ha : PE X a (tE (kb X (pr.cl L)) (evE cf ea))) (hmo : d.df.modes = [true] := by rfl) (hg : Gl X d.x := by rfl) (hs : noStar a = true := by rfl)
    (hpl : (backTo pos (starEach [] X.env)).any (·.1) = false := by rfl) (hdb : (d.x == ("__debug__" : Str)) = false := by decide) : PE X (.Call (.Name d.x p) [a] [] pos) (tE (kb X (pr.cl L)) (evE cf (.calT j ea))) := by
  have O := A.cal j h
  rw [hmo] at O
  exact c_calT O A.G A.hr ha hg hs hpl hdb
/-- with lambdas among the arguments -/
theorem q_caly (A : Ax pr k0 X X.env.cells cf n) (j : Nat) (d : Dd) (h : pr.defs[j]? = some d) (js : List Nat) (hL : ∀ j ∈ js, ∀ t, pr.lamOf j = some t → LamAt X t) (ha : PA X (a :: es) (tA (kb X (pr.cl X.env.cells)) (evAs cf as))) (hfn : X.fn = fun _ => true := by rfl) (hmo : d.df.modes = List.replicate d.df.modes.length false := by rfl) (hg : Gl X d.x := by rfl) (hs : noStar a = true := by rfl)
    (hpl : (backTo pos (starEach es X.env)).any (·.1) = false := by rfl) (hdb : (d.x == ("__debug__" : Str)) = false := by decide) : PE X (.Call (.Name d.x p) (a :: es) [] pos) (tE (kb X (pr.cl X.env.cells)) (evE cf (.caly j as js))) := by
  obtain ⟨f, fd, h1, h2, h3, h4⟩ := (A.cal j h).ex
  refine e_caly (m := d.df.modes.length) A.G A.hr hfn ?_ hL (fun k' base' x hi hb => ?_) (A.len j d h) h1 h2 ha hg hs hpl hdb
  · obtain ⟨o, e⟩ := Option.isSome_iff_exists.mp A.hd.mgl
    rw [A.ext.lk _ _ e]
    rfl
  · obtain ⟨f', fd', g1, g2, g3, g4⟩ := ((A.all k' base' (A.ext.trans x) (A.bok.keep hb x hi) X.env.cells).1 j d h).ex
    rw [h1] at g1
    cases g1
    rw [hmo] at g4
    exact ⟨fd', d.ps, g4, Binds.of_k g3⟩
theorem q_xclv (A : Ax pr k0 X L cf n) (tk : Takes X W) {i : Nat} (ha : PA X (a :: es) (tA (kb X (pr.cl L)) (evAs cf as))) (hN : X.N[i]? = some x := by rfl) (hv : Vis X.env.scope x := by first | exact .inl rfl | exact .inr (.inl rfl) | exact .inr (.inr rfl))
    (hs : noStar a = true := by rfl) (hpl : (backTo pos (starEach es X.env)).any (·.1) = false := by rfl) (hdb : (x == ("__debug__" : Str)) = false := by decide) (hcd : (x == ("__classdict__" : Str)) = false := by decide) : PE X (.Call (.Name x p) (a :: es) [] pos) (tX (kb X (pr.cl L)) W (evX cf (.clv i as))) :=
  x_clv A.G tk A.hr A.lam ha hN hv hs hpl hdb hcd
theorem q_xclv0 (A : Ax pr k0 X L cf n) (tk : Takes X W) {i : Nat} (hN : X.N[i]? = some x := by rfl) (hv : Vis X.env.scope x := by first | exact .inl rfl | exact .inr (.inl rfl) | exact .inr (.inr rfl))
    (hdb : (x == ("__debug__" : Str)) = false := by decide) (hcd : (x == ("__classdict__" : Str)) = false := by decide) : PE X (.Call (.Name x p) [] [] pos) (tX (kb X (pr.cl L)) W (evX cf (.clv i .nil))) :=
  x_clv0 A.G tk A.hr A.lam hN hv hdb hcd
theorem q_clv (A : Ax pr k0 X L cf n) {i : Nat} (ha : PA X (a :: es) (tA (kb X (pr.cl L)) (evAs cf as))) (hN : X.N[i]? = some x := by rfl) (hv : Vis X.env.scope x := by first | exact .inl rfl | exact .inr (.inl rfl) | exact .inr (.inr rfl))
    (hs : noStar a = true := by rfl) (hpl : (backTo pos (starEach es X.env)).any (·.1) = false := by rfl) (hdb : (x == ("__debug__" : Str)) = false := by decide) (hcd : (x == ("__classdict__" : Str)) = false := by decide) : PE X (.Call (.Name x p) (a :: es) [] pos) (tE (kb X (pr.cl L)) (evE cf (.clv i as))) :=
  e_clv A.G A.hr A.lam ha hN hv hs hpl hdb hcd
/-! names -/
theorem q_v (i : Nat) (hN : X.N[i]? = some x := by rfl) (hv : Vis X.env.scope x := by first | exact .inl rfl | exact .inr (.inl rfl) | exact .inr (.inr rfl)) (hd : (x == ("__debug__" : Str)) = false := by decide)
    (hcd : (x == ("__classdict__" : Str)) = false := by decide) : PE X (.Name x pos) (tVar i) := pe_var hN hv hd hcd
theorem q_cst (A : Ax pr k0 X L cf n) (i : Nat) (q : Str × D) (h : pr.csts[i]? = some q) (hg : Gl X q.1 := by rfl) (hd : (q.1 == ("__debug__" : Str)) = false := by decide) : PE X (.Name q.1 pos) (tE (kb X (pr.cl L)) (evE cf (.cst q.2))) := by
  obtain ⟨u, v, h1, h2, h3⟩ := (A.hd.cst q (List.mem_of_getElem? h)).ext A.ext A.hd.mgl
  exact e_cst (pe_glob hg h1 h2 hd) fun H A => h3 _ H A
theorem Ax.blt (A : Ax pr k0 X L cf n) (i : Nat) (h : pr.blts[i]? = some x) : X.mg x = none := A.hd.blt x (List.mem_of_getElem? h)
/-! exceptions -/
theorem Ax.ga (A : Ax pr k0 X L cf n) {x : Str} (h : x ∈ pr.excs) : He.ga X.K x = He.ga k0 x := ga_of A.ext.lk (A.hd.exc x h).ns
theorem q_rais (A : Ax pr k0 X L cf n) (tk : Takes X W) (i : Nat) (h : pr.excs[i]? = some x) (ha : PE X a (tE (kb X (pr.cl L)) (evE cf ea))) (hg : Gl X x := by rfl) (hs : noStar a = true := by rfl)
    (hdb : (x == ("__debug__" : Str)) = false := by decide) (hpl : (backTo p2 (starEach [] X.env)).any (·.1) = false := by rfl) :
    PS X (.Raise (some (.Call (.Name x p) [a] [] p2)) none pos) (tS (kb X (pr.cl L)) W B (evS cf (.rais x ea))) := by
  have hm := List.mem_of_getElem? h
  have F := A.hd.exc x hm
  obtain ⟨hf, fd, hi⟩ := A.hd.ini (fun z => by rw [z] at hm; cases hm)
  obtain ⟨h1, h2⟩ := hi X.K X.base A.ext
  exact s_rais A.G tk (A.hr.mono (by omega)) (A.ga hm) (OexC.ext A.ext.lk F.sub.ox) (findIn_ext A.ext.lk F.ini) (typeIn_ext A.ext.lk hf) (h1 x hm) h2 hg F.gl ha hs hdb hpl
theorem q_exv (A : Ax pr k0 X L cf n) (he : PE X a (tP (kb X (pr.cl L)) (evP cf pa))) (hb : attributeBase a "value" X.env (eval a X.env) = eval a X.env := by rfl) :
    PE X (.Attribute a "value" pos) (tE (kb X (pr.cl L)) (evE cf (.exv pa pr.excs))) :=
  e_exv (fun c hc => by rw [A.ga hc]; exact ⟨XfC.ext A.ext.lk (A.hd.exc c hc).xf, findIn_ext A.ext.lk (A.hd.exc c hc).sub.noV⟩) he hb
theorem q_isx (A : Ax pr k0 X L cf n) (i : Nat) (h : pr.excs[i]? = some y) (k : Nat) (hk : pr.blts[k]? = some "isinstance") (he : PE X a (tP (kb X (pr.cl L)) (evP cf pa))) (hg : Gl X "isinstance" := by rfl)
    (hg2 : Gl X y := by rfl) (hs : noStar a = true := by rfl) (hdb : (y == ("__debug__" : Str)) = false := by decide) :
    PE X (.Call (.Name "isinstance" p) [a, .Name y p2] [] pos) (tE (kb X (pr.cl L)) (evE cf (.isx pa y pr.excs))) := by
  have hm := List.mem_of_getElem? h
  refine e_isx (S := He.ga k0 y) (fun c hc => ?_) he rfl hg (A.blt k hk) hg2 (A.hd.exc y hm).gl hs hdb
  rw [A.ga hc]
  exact ⟨ExcC.ext A.ext.lk (A.hd.exc c hc).ex, kitOne_ext A.ext.lk (A.hd.kit c hc y hm)⟩
end
end Dn
end

section
set_option linter.all false
set_option autoImplicit false
set_option maxRecDepth 10000
/-! DoE: comprehensions, lambdas, try in the setting; all defs keep their promises. -/
namespace Dn
open PySem PySem.Spec PyProof.Rows L2

/-! ### comprehensions -/
def isFun : ScopeKind → Bool
  | .function => true
  | _ => false
def nkB : NameKind → Nat
  | .local => 1
  | .cell => 2
  | .free => 3
  | _ => 0
theorem nk1 {k : NameKind} (h : k = .local) : nkB k = 1 := by rw [h]; rfl
def lkB (l : List (Str × NameKind)) (x : Str) : Nat := match l.lookup x with
  | some k => nkB k
  | none => 9
def uniqB : List (Str × NameKind) → Bool
  | [] => true
  | y :: r => !(r.any fun z => z.1 == y.1) && uniqB r
theorem uniq_ok : ∀ {l : List (Str × NameKind)}, uniqB l = true → ∀ y ∈ l, l.lookup y.1 = some y.2
  | [], _, y, m => by cases m
  | z :: r, h, y, m => by
    obtain ⟨h1, h2⟩ := Bool.and_eq_true_iff.mp (show (!(r.any fun w => w.1 == z.1) && uniqB r) = true from h)
    rw [List.lookup_cons]
    rcases List.mem_cons.mp m with rfl | m
    · rw [beq_self_eq_true]
    · have : (y.1 == z.1) = false := by
        cases e : y.1 == z.1 with
        | false => rfl
        | true =>
          have h1 : (r.any fun w => w.1 == z.1) = false := by simpa using h1
          rw [List.any_eq_false] at h1
          exact absurd e (h1 y m)
      rw [this]
      exact uniq_ok h2 y m
def blkB (N : List Str) (sc scope : Scope) (own : List (Str × Nat)) : Bool := isFun scope.kind && (uniqB scope.names && ((own.all fun p => match N[p.2]? with
    | some x => x == p.1
    | none => false) && (scope.names.all fun y => match y.2 with
    | .free => lkB sc.names y.1 == 2 || lkB sc.names y.1 == 3
    | .local => (own.any fun p => p.1 == y.1) || !(N.any fun z => z == y.1)
    | .cell => (own.any fun p => p.1 == y.1) || !(N.any fun z => z == y.1)
    | _ => true)))
theorem lkB_ok {l : List (Str × NameKind)} {x : Str} (h : (lkB l x == 2 || lkB l x == 3) = true) : l.lookup x = some .cell ∨ l.lookup x = some .free := by
  unfold lkB at h
  cases e : l.lookup x with
  | none => rw [e] at h; cases h
  | some k =>
    rw [e] at h
    cases k with
    | cell => exact .inl rfl
    | free => exact .inr rfl
    | _ => cases h
theorem blk_ok {N : List Str} {sc scope : Scope} {own : List (Str × Nat)} (h : blkB N sc scope own = true) : BlkOk N sc scope own := by
  obtain ⟨h1, h⟩ := Bool.and_eq_true_iff.mp h
  obtain ⟨h2, h⟩ := Bool.and_eq_true_iff.mp h
  obtain ⟨h3, h4⟩ := Bool.and_eq_true_iff.mp h
  have own2 : ∀ {x : Str}, ((own.any fun p => p.1 == x) || !(N.any fun z => z == x)) = true → x ∈ own.map (·.1) ∨ x ∉ N := fun {x} e => by
    rcases Bool.or_eq_true_iff.mp e with e | e
    · obtain ⟨p, hp, e⟩ := List.any_eq_true.mp e
      exact .inl (List.mem_map.mpr ⟨p, hp, eq_of_beq e⟩)
    · refine .inr fun m => ?_
      have e : (N.any fun z => z == x) = false := by simpa using e
      rw [List.any_eq_false] at e
      exact absurd (beq_self_eq_true x) (by simpa using e x m)
  refine ⟨?_, uniq_ok h2, fun p hp => ?_, fun y hy hf => ?_, fun y hy hk => ?_⟩
  · revert h1
    cases scope.kind <;> intro h1 <;> first | rfl | cases h1
  · have := List.all_eq_true.mp h3 p hp
    cases e : N[p.2]? with
    | none => rw [e] at this; cases this
    | some x => rw [e] at this; rw [eq_of_beq (show (x == p.1) = true from this)]
  · have := List.all_eq_true.mp h4 y hy
    rw [hf] at this
    exact lkB_ok this
  · have := List.all_eq_true.mp h4 y hy
    rcases hk with hk | hk
    · rw [hk] at this; exact own2 this
    · rw [hk] at this; exact own2 this
section
variable {pr : Prg} {k0 : PySem.W.Frag} {X : Cx} {L : List (Str × Addr)} {cf : CallF} {n : Nat}
variable {a b c elt it tg e : Expr} {ifs es : List Expr} {pos p p2 pos2 py : Pos} {as : As} {W : WX} {x y : Str} {ea eb ee : E} {pa pb : P} {B : List Nat} {g : Tg} {i : I} {t : Ts} {scope : Scope}
theorem q_lc (A : Ax pr k0 X L cf n) (own : List (Str × Nat)) (nn : Nat) (hi : PI X tg it (tI (kb X (pr.cl L)) (evI cf i)))
    (hg : ∀ {s : Shared} {H : Hp} {Ca : Addr} {cl : List (Str × Addr)} {fp : List Addr}, Ax pr k0 (X.blk s H scope (compEnvC scope cl Ca X.env) fp) L cf n → PG (X.blk s H scope (compEnvC scope cl Ca X.env) fp) tg (tG (kb X (pr.cl L)) (cB (own.map (·.2)) nn) fun Γ => bind1 Γ g))
    (ht : ∀ {s : Shared} {H : Hp} {Ca : Addr} {cl : List (Str × Addr)} {fp : List Addr}, Ax pr k0 (X.blk s H scope (compEnvC scope cl Ca X.env) fp) L cf n → PTs (X.blk s H scope (compEnvC scope cl Ca X.env) fp) ifs (tT (kb X (pr.cl L)) (evTs cf t)))
    (he : ∀ {s : Shared} {H : Hp} {Ca : Addr} {cl : List (Str × Addr)} {fp : List Addr}, Ax pr k0 (X.blk s H scope (compEnvC scope cl Ca X.env) fp) L cf n → PE (X.blk s H scope (compEnvC scope cl Ca X.env) fp) elt (tE (kb X (pr.cl L)) (evE cf ee)))
    (ok : blkB X.N X.env.scope scope own = true := by rfl) (hs : ∀ x, foldedSetIterable it X.env x = pure x := by intro _; rfl) :
    PE X (.ListComp elt [⟨tg, it, ifs, 0⟩] scope pos) (tE (kb X (pr.cl L)) (evE cf (.cmp1 ee g i t (own.map (·.2)) nn))) :=
  e_lc A.G hi (blk_ok ok) (fun _ _ _ _ _ => hg A.blk) (fun _ _ _ _ _ => ht A.blk) (fun _ _ _ _ _ => he A.blk) hs
theorem q_slc (A : Ax pr k0 X L cf n) (own : List (Str × Nat)) (nn j : Nat) (hi : PI X tg it (tI (kb X (pr.cl L)) (evI cf i)))
    (hg : ∀ {s : Shared} {H : Hp} {Ca : Addr} {cl : List (Str × Addr)} {fp : List Addr}, Ax pr k0 (X.blk s H scope (compEnvC scope cl Ca X.env) fp) L cf n → PG (X.blk s H scope (compEnvC scope cl Ca X.env) fp) tg (tG (kb X (pr.cl L)) (cB (own.map (·.2)) nn) fun Γ => bind1 Γ g))
    (ht : ∀ {s : Shared} {H : Hp} {Ca : Addr} {cl : List (Str × Addr)} {fp : List Addr}, Ax pr k0 (X.blk s H scope (compEnvC scope cl Ca X.env) fp) L cf n → PTs (X.blk s H scope (compEnvC scope cl Ca X.env) fp) ifs (tT (kb X (pr.cl L)) (evTs cf t)))
    (he : ∀ {s : Shared} {H : Hp} {Ca : Addr} {cl : List (Str × Addr)} {fp : List Addr}, Ax pr k0 (X.blk s H scope (compEnvC scope cl Ca X.env) fp) L cf n → PE (X.blk s H scope (compEnvC scope cl Ca X.env) fp) elt (tE (kb X (pr.cl L)) (evE cf ee)))
    (hsw : swapsWith (.ListComp elt [⟨tg, it, ifs, 0⟩] scope p2) (some (.Name y py)) pos.line X.env = pure true := by rfl) (hy : X.N[j]? = some y := by rfl) (hyl : X.env.scope.names.lookup y = some .local := by rfl) (hB : j ∉ B := by decide)
    (ok : blkB X.N X.env.scope scope own = true := by rfl) (hs : ∀ x, foldedSetIterable it X.env x = pure x := by intro _; rfl) :
    PS X (.Assign [.Name y py] (.ListComp elt [⟨tg, it, ifs, 0⟩] scope p2) pos) (tS (kb X (pr.cl L)) W B (evS cf (.asg (.nm j) (.cmp1 ee g i t (own.map (·.2)) nn)))) :=
  s_lc A.G hi (blk_ok ok) (fun _ _ _ _ _ => hg A.blk) (fun _ _ _ _ _ => ht A.blk) (fun _ _ _ _ _ => he A.blk) hsw hy hyl hB hs
/-! ### lambdas -/
theorem q_lam (A : Ax pr k0 X X.env.cells cf n) {q : Str} (mk : ∃ c P, CodeAt X.K X.env.code q c P) (j : Nat) {t : Lam} (hj : pr.lamOf j = some t) {params : Arguments} {body : Expr} {scope : Scope} (hq : q = X.env.qual ++ "<lambda>" := by rfl) (ht : t.qual = q := by rfl) (h1 : t.params = params := by rfl) (h2 : t.body = body := by rfl) (h3 : t.scope = scope := by rfl)
    (hx : X.ex = [] := by rfl) (hdef : defaultsOf params X.env = ([], []) := by rfl) (hfree : (scope.names.all fun y => match y.2 with
      | .free => lkB X.env.scope.names y.1 == 2
      | _ => true) = true := by rfl) :
    PE X (.Lambda params body scope pos) (tE (kb X (pr.cl X.env.cells)) (evE cf (.lam j t.caps))) := by
  obtain ⟨c, P, CA⟩ := mk
  refine e_lam hq hj ht rfl h1 h2 h3 CA (A.bok.tb (c, P) CA.inm) hx hdef fun y hy e => ?_
  have := List.all_eq_true.mp hfree y hy
  rw [e] at this
  have this : (lkB X.env.scope.names y.1 == 2) = true := this
  unfold lkB at this
  cases e2 : X.env.scope.names.lookup y.1 with
  | none => rw [e2] at this; cases this
  | some k =>
    rw [e2] at this
    cases k with
    | cell => rfl
    | _ => cases this
/-! ### try -/
theorem q_try (A : Ax pr k0 X L cf n) {i ec j : Nat} {xc : Xc} {nm : Str} {st : Stmt} {pe np pa' pos' : Pos} (hr0 : pr.root ∈ pr.excs) (hej : ec ≠ j := by decide) (heB : ec ∉ B := by decide) (hjB : j ∉ B := by decide)
    (hx : x = pr.root := by rfl) (hg : Gl X x := by rfl) (hdb : (x == ("__debug__" : Str)) = false := by decide)
    (hn : X.N[ec]? = some nm := by rfl) (hln : X.env.kindOf nm = some .local := by rfl) (hy : X.N[j]? = some y := by rfl) (hly : X.env.kindOf y = some .local := by rfl) (hvn : Vis X.env.scope nm := by exact .inl rfl)
    (hex : X.ex = [] := by rfl) (hs : X.stack = X.env :: X.outer := by rfl) (hf : X.env.frame = some X.env.locals := by rfl)
    (hsw : swapsWith (.Name nm pe) (some (.Name y py)) pa'.line X.env = pure false := by rfl) (hnd : (nm == ("__debug__" : Str)) = false := by decide) (hncd : (nm == ("__classdict__" : Str)) = false := by decide)
    (hb : ∀ {W' : WX} {pn : List (Addr × Obj)} {xe : Value → Shared → Prop}, Ax pr k0 (X.tr pn xe) L cf n → Takes (X.tr pn xe) W' → PS (X.tr pn xe) st (tS (kb X (pr.cl L)) W' B (evS cf (.xasg i xc)))) :
    PS X (.Try [st] [.ExceptHandler (some (.Name x np)) (some nm) [.Assign [.Name y py] (.Name nm pe) pa'] pos'] [] [] pos) (tS (kb X (pr.cl L)) W B (evS cf (.tryx i xc ec j pr.excs))) := by
  subst hx
  have F := A.hd.exc _ hr0
  refine s_try (S := He.ga k0 pr.root) A.G hex hs hf hn hln hy hly ⟨hg, hdb, .inl F.gl⟩ (fun c hc => ?_) hej heB hjB hvn hsw hnd hncd fun W' pn xe G tk => hb (A.tr G) tk
  rw [A.ga hc]
  exact exmOne_ext A.ext.lk (A.hd.exc c hc).exm
/-! ### built-ins -/
theorem q_isi (A : Ax pr k0 X L cf n) (t : Ty) (i k : Nat) (hi : pr.blts[i]? = some "isinstance") (hk : pr.blts[k]? = some y) (ha : PE X a (tP (kb X (pr.cl L)) (evP cf pa))) (hg : Gl X "isinstance" := by rfl) (hy : bootBuiltins y = some (.type (tyS t)) := by rfl) (hg2 : Gl X y := by rfl) (hn : y ≠ "__name__" := by decide) (hdb : (y == ("__debug__" : Str)) = false := by decide) (hs : noStar a = true := by rfl) :
    PE X (.Call (.Name "isinstance" p) [a, .Name y p2] [] pos) (tE (kb X (pr.cl L)) (evE cf (.bl1 (.isi t) pa))) := e_isi t ha rfl hg (A.blt i hi) hy hg2 (A.blt k hk) hn hdb hs
end

/-! ### a def's code object and its table -/
theorem nodup_fst {α β : Type} : ∀ {l : List (α × β)} {p q : α × β}, (l.map (·.1)).Nodup → p ∈ l → q ∈ l → p.1 = q.1 → p = q
  | [], p, q, _, m, _, _ => by cases m
  | z :: l, p, q, n, m1, m2, e => by
    obtain ⟨n1, n2⟩ := List.nodup_cons.mp (show (z.1 :: l.map (·.1)).Nodup from n)
    rcases List.mem_cons.mp m1 with e1 | k1
    · rcases List.mem_cons.mp m2 with e2 | k2
      · rw [e1, e2]
      · exact absurd (List.mem_map.mpr ⟨q, k2, by rw [← e, e1]⟩) n1
    · rcases List.mem_cons.mp m2 with e2 | k2
      · exact absurd (List.mem_map.mpr ⟨p, k1, by rw [e, e2]⟩) n1
      · exact nodup_fst n2 k1 k2 e
theorem codeAt_of {k : PySem.W.Frag} {name qual : Str} {params : Arguments} {body : List Stmt} {scope : Scope} {f : Addr} {fd : FuncData} {cd : Value} (g : tabG k = true) (F : FunD k name qual params body scope [] [] f fd) (hn : (name == ("<lambda>" : Str)) = false) (hcd : fd.code = cd) :
    ∃ c P, CodeAt k cd (qual ++ ".<locals>." ++ "<lambda>") c P := by
  obtain ⟨g1, g2⟩ := Bool.and_eq_true_iff.mp g
  obtain ⟨oc, od, dV, kV, doc, pm, an, cdv, ct, osl, rfl, lk, hc, _, _⟩ := F.ex
  subst hcd
  obtain ⟨p, hp, ep⟩ := lookup_in lk
  have h1 := List.all_eq_true.mp g1 p hp
  rw [ep] at h1
  dsimp only at h1
  rw [hn, Bool.false_or] at h1
  cases cdv with
  | ref c =>
    dsimp only at h1
    obtain ⟨P, hP⟩ := Option.isSome_iff_exists.mp h1
    have mt : (P, qual ++ ".<locals>." ++ "<lambda>") ∈ tabs k := List.mem_filterMap.mpr ⟨p, hp, by
      rw [ep]
      dsimp only
      rw [hn, if_neg Bool.false_ne_true, hP]
      rfl⟩
    refine ⟨c, P, rfl, List.mem_filterMap.mpr ⟨p, hp, by
      rw [ep]
      dsimp only
      rw [hn, if_neg Bool.false_ne_true, hP]
      rfl⟩, mt, fun q hq e => ?_⟩
    rw [nodup_fst (of_decide_eq_true g2) hq mt e]
  | _ => unfold PySem.W.codeIn at hc; cases hc
/-! ### all defs -/
def BodyOk (pr : Prg) (d : Dd) (N : List Str) (qual : Str) (scope : Scope) (body : List Stmt) : Prop :=
  ∀ (P : Program) (w : World) (k0 k : PySem.W.Frag) (mg : Str → Option Value) (base : Heap) (f : Addr) (cd : Value) (A : Around) (outer : List PySem.Env) (s : Shared) (H : Hp) (E : XK) (L : List (Str × Addr)) (cf : CallF) (n : Nat),
    Ax pr k0 (cxG P w k mg base N qual scope f cd A outer s H E) L cf n → Takes (cxG P w k mg base N qual scope f cd A outer s H E) (wE E) → (d.df.mkr = true → L = (cxG P w k mg base N qual scope f cd A outer s H E).env.cells) → (∃ c Pt, CodeAt k cd (qual ++ ".<locals>." ++ "<lambda>") c Pt) →
    PSs (cxG P w k mg base N qual scope f cd A outer s H E) body (tS ⟨k, pr.cl L⟩ (wE E) (refIx 0 d.df.modes) (evSs cf d.df.body))
structure DefK (pr : Prg) (k0 : PySem.W.Frag) (mg : Str → Option Value) (d : Dd) : Prop where
  ex : ∃ (f : Addr) (fd : FuncData) (name qual : Str) (params : Arguments) (body : List Stmt) (scope : Scope) (N : List Str), mg d.x = some (.ref f) ∧ FunD k0 name qual params body scope [] [] f fd ∧ (name == ("<lambda>" : Str)) = false ∧ FnScope N d.ps scope ∧ N.length = d.df.slots ∧ d.ps.length = d.df.np ∧ d.df.modes.length = d.df.np ∧ d.df.np ≤ d.df.slots ∧
    (∀ us ws : List Value, (us ++ ws).length = d.ps.length → bindArgs fd ⟨us, (d.ps.drop us.length).zip ws⟩ = pure (d.ps.zip (us ++ ws))) ∧ BodyOk pr d N qual scope body
def BodyL (pr : Prg) (t : Lam) (ps : List Str) (df : Df) : Prop :=
  ∀ (P : Program) (w : World) (k0 k : PySem.W.Frag) (mg : Str → Option Value) (base : Heap) (f c' : Addr) (cl : List (Str × Addr)) (A : Around) (outer : List PySem.Env) (s : Shared) (H : Hp) (E : XK) (L : List (Str × Addr)) (cf : CallF) (n : Nat),
    Ax pr k0 (cxL P w k mg base (ps ++ t.names) t.qual t.scope f c' cl A outer s H E) L cf n → Takes (cxL P w k mg base (ps ++ t.names) t.qual t.scope f c' cl A outer s H E) (wE E) →
    ∃ te, PE (cxL P w k mg base (ps ++ t.names) t.qual t.scope f c' cl A outer s H E) t.body te ∧ ∀ (σ : L2.St) (Q : VK) (D : Ends), D.rt = Q → tS ⟨k, pr.cl L⟩ (wE E) (refIx 0 df.modes) (evSs cf df.body) D σ H → te σ H Q
structure LamK (pr : Prg) (t : Lam) (ps : List Str) (df : Df) : Prop where
  sc : LamScope ps t.names t.scope
  ln : (ps ++ t.names).length = df.slots
  np : df.np = df.slots
  ms : df.modes = List.replicate df.np false
  bind : ∀ (q : Str) (cl : List (Str × Addr)) (pm cv ctv : Value) (us : List Value), us.length = ps.length → bindArgs (PySem.W.kla_fn "<lambda>" q t.params t.body t.scope cl pm cv ctv) ⟨us, []⟩ = pure (ps.zip us)
  body : BodyL pr t ps df
section
variable {pr : Prg} {P : Program} {w : World} {k0 : PySem.W.Frag} {mg : Str → Option Value}
theorem inSl_ms : ∀ {ms : List Bool} {ds : List D} {Γ : Env}, inSl ms ds = some Γ → ds.length = ms.length
  | [], [], _, _ => rfl
  | [], _ :: _, _, h => by cases h
  | _ :: _, [], _, h => by cases h
  | m :: ms, d :: ds, Γ, h => by
    unfold inSl at h
    obtain ⟨r, e, rfl⟩ := Option.map_eq_some_iff.mp h
    exact congrArg Nat.succ (inSl_ms e)
theorem dfOf_def {j : Nat} {d : Dd} (h : pr.defs[j]? = some d) : pr.dfOf j = some d.df := by unfold Prg.dfOf; rw [h]
theorem callD_len {n j : Nat} {d : Dd} (h : pr.defs[j]? = some d) {ds : List D} {oc : Oc} (e : callD pr.dfOf n j ds = some oc) : ds.length = d.df.modes.length := by
  cases n with
  | zero => cases e
  | succ n =>
    unfold callD at e
    rw [dfOf_def h] at e
    dsimp only at e
    have e := (run_core e).1
    unfold runCore at e
    split at e
    · rename_i Γ hi
      exact inSl_ms hi
    · cases e
theorem callD_def {n j : Nat} {d : Dd} (h : pr.defs[j]? = some d) : callD pr.dfOf (n + 1) j = runDf (callD pr.dfOf n) d.df := by
  funext ds
  show (match pr.dfOf j with
    | some f => runDf (callD pr.dfOf n) f ds
    | none => none) = _
  rw [dfOf_def h]
theorem lam_at {j : Nat} {t : Lam} (h : pr.lamOf j = some t) : ∃ ps df, pr.lams[j - pr.defs.length]? = some (t, ps, df) ∧ pr.dfOf j = some df := by
  unfold Prg.lamOf at h
  split at h
  · cases h
  rename_i hj
  obtain ⟨⟨t', ps, df⟩, e, rfl⟩ := Option.map_eq_some_iff.mp h
  refine ⟨ps, df, e, ?_⟩
  unfold Prg.dfOf
  rw [List.getElem?_eq_none (Nat.le_of_not_lt hj), e]
  rfl
theorem one_ok {n : Nat} (hd : HeadF pr P w k0 mg) (tg : tabG k0 = true) (ih : AllN pr P w k0 mg n (callD pr.dfOf n)) {k : PySem.W.Frag} {base : Heap} (x : KExt k0 k) (b : BaseOk k mg base) (cells : List (Str × Addr)) {j : Nat} {d : Dd} (h : pr.defs[j]? = some d)
    {f : Addr} {fd : FuncData} {name qual : Str} {params : Arguments} {body : List Stmt} {scope : Scope} {N : List Str} (F : FunD k0 name qual params body scope [] [] f fd) (hn : (name == ("<lambda>" : Str)) = false) (S : FnScope N d.ps scope) (l1 : N.length = d.df.slots) (l2 : d.ps.length = d.df.np) (l3 : d.df.modes.length = d.df.np) (l4 : d.df.np ≤ d.df.slots) (B : BodyOk pr d N qual scope body) :
    FnG P w k mg base (n + 1 + 2) f fd d.ps (spD ⟨k, pr.cl cells⟩ (callD pr.dfOf (n + 1) j) d.df.modes) := by
  rw [callD_def h]
  have F' := FunD.ext x.lk F
  have code : ∀ cd, fd.code = cd → ∃ c Pt, CodeAt k cd (qual ++ ".<locals>." ++ "<lambda>") c Pt := fun cd hcd => by
    obtain ⟨c, Pt, q⟩ := codeAt_of tg F hn hcd
    exact ⟨c, Pt, CodeAt.ext x q⟩
  cases hm : d.df.mkr with
  | true =>
    refine def_y (n := n + 2) hm F' S l1 l2 l3 l4 fun cd hcd A outer s H E G tk hr => ?_
    exact B P w k0 k mg base f cd A outer s H E _ _ n ⟨G, hr, x, b, ih, fun j d h ds oc e => callD_len h e, hd⟩ tk (fun _ => rfl) (code cd hcd)
  | false =>
    refine def_g (n := n + 2) F' S l1 l2 l3 l4 fun cd hcd A outer s H E G tk hr => ?_
    exact B P w k0 k mg base f cd A outer s H E cells _ n ⟨G, hr, x, b, ih, fun j d h ds oc e => callD_len h e, hd⟩ tk (fun z => by rw [hm] at z; cases z) (code cd hcd)
theorem all_ok (hd : HeadF pr P w k0 mg) (tg : tabG k0 = true) (hdef : ∀ d ∈ pr.defs, DefK pr k0 mg d) (hlam : ∀ q ∈ pr.lams, LamK pr q.1 q.2.1 q.2.2) : ∀ n, AllN pr P w k0 mg n (callD pr.dfOf n)
  | 0 => fun k base x b cells => ⟨fun j d h => by
      obtain ⟨f, fd, name, qual, params, body, scope, N, h1, F, hn, S, l1, l2, l3, l4, hb, _⟩ := (hdef d (List.mem_of_getElem? h)).ex
      exact ⟨f, fd, h1, keepIn_ext x.lk F.kp, hb, def_0 (by rw [l2, l3])⟩, fun j => ⟨fun f c' q ws hc A outer s H us vs m Q E _ _ _ _ _ h => by obtain ⟨_, _, _, _, e, _⟩ := h; cases e⟩⟩
  | n + 1 => fun k base x b cells => by
    have ih := all_ok hd tg hdef hlam n
    refine ⟨fun j d h => ?_, fun j => ?_⟩
    · obtain ⟨f, fd, name, qual, params, body, scope, N, h1, F, hn, S, l1, l2, l3, l4, hb, B⟩ := (hdef d (List.mem_of_getElem? h)).ex
      exact ⟨f, fd, h1, keepIn_ext x.lk F.kp, hb, one_ok hd tg ih x b cells h F hn S l1 l2 l3 l4 B⟩
    · cases hj : pr.lamOf j with
      | none => exact ⟨fun f c' q ws hc A outer s H us vs m Q E _ _ _ _ _ h => by
          obtain ⟨t, _, _, _, e, _⟩ := hc.ex
          rw [show (pr.cl cells).lams j = pr.lamOf j from rfl, hj] at e
          cases e⟩
      | some t =>
        obtain ⟨ps, df, e1, e2⟩ := lam_at hj
        have K := hlam _ (List.mem_of_getElem? e1)
        have g := lam_g (P := P) (w := w) (k := k) (mg := mg) (base := base) (C := pr.cl cells) (cf := callD pr.dfOf n) (n := n + 2) (j := j) hj K.sc K.ln K.np K.ms K.bind fun f c' cl A outer s H E G tk hr =>
          K.body P w k0 k mg base f c' cl A outer s H E cells _ n ⟨G, hr, x, b, ih, fun j d h ds oc e => callD_len h e, hd⟩ tk
        refine ⟨fun f c' q ws hc A outer s H us vs m Q E hg hr e0 hv hcd h => g.run f c' q ws hc A outer s H us vs m Q E hg hr e0 hv hcd ?_⟩
        have : callD pr.dfOf (n + 1) j = runDf (callD pr.dfOf n) df := by
          funext ds
          show (match pr.dfOf j with
            | some f => runDf (callD pr.dfOf n) f ds
            | none => none) = _
          rw [e2]
        rw [this] at h
        exact h
/-- a lambda's body is an expression -/
theorem lam_ret {t : Lam} {ps : List Str} {df : Df} {e : E} (hb : df.body = .cons (.ret e) .nil)
    (h : ∀ (P : Program) (w : World) (k0 k : PySem.W.Frag) (mg : Str → Option Value) (base : Heap) (f c' : Addr) (cl : List (Str × Addr)) (A : Around) (outer : List PySem.Env) (s : Shared) (H : Hp) (E : XK) (L : List (Str × Addr)) (cf : CallF) (n : Nat),
      Ax pr k0 (cxL P w k mg base (ps ++ t.names) t.qual t.scope f c' cl A outer s H E) L cf n → Takes (cxL P w k mg base (ps ++ t.names) t.qual t.scope f c' cl A outer s H E) (wE E) → PE (cxL P w k mg base (ps ++ t.names) t.qual t.scope f c' cl A outer s H E) t.body (tE ⟨k, pr.cl L⟩ (evE cf e))) : BodyL pr t ps df :=
  fun P w k0 k mg base f c' cl A outer s H E L cf n X tk => ⟨_, h P w k0 k mg base f c' cl A outer s H E L cf n X tk, fun σ Q D hQ hs => by
    rw [hb] at hs
    rw [← hQ]
    exact of_ret hs Eqs.refl⟩
theorem lam_xret {t : Lam} {ps : List Str} {df : Df} {x : Xc} (hb : df.body = .cons (.xret x) .nil)
    (h : ∀ (P : Program) (w : World) (k0 k : PySem.W.Frag) (mg : Str → Option Value) (base : Heap) (f c' : Addr) (cl : List (Str × Addr)) (A : Around) (outer : List PySem.Env) (s : Shared) (H : Hp) (E : XK) (L : List (Str × Addr)) (cf : CallF) (n : Nat),
      Ax pr k0 (cxL P w k mg base (ps ++ t.names) t.qual t.scope f c' cl A outer s H E) L cf n → Takes (cxL P w k mg base (ps ++ t.names) t.qual t.scope f c' cl A outer s H E) (wE E) → PE (cxL P w k mg base (ps ++ t.names) t.qual t.scope f c' cl A outer s H E) t.body (tX ⟨k, pr.cl L⟩ (wE E) (evX cf x))) : BodyL pr t ps df :=
  fun P w k0 k mg base f c' cl A outer s H E L cf n X tk => ⟨_, h P w k0 k mg base f c' cl A outer s H E L cf n X tk, fun σ Q D hQ hs => by
    rw [hb] at hs
    rw [← hQ]
    exact of_xret hs Eqs.refl⟩
end
end Dn
end

section
set_option linter.all false
set_option autoImplicit false
set_option maxRecDepth 10000
/-! DoF: a law of a program of defs, put together. -/
namespace Dn
open PySem PySem.Spec PyProof.Rows L2
structure Row where
  d : Dd
  st : Stmt
  N : List Str
def Row.dd (r : Row) : He.DefD := ⟨(r.d.x, none), r.d.x, r.d.x, defArgs r.st, defBody r.st, defScope r.st, [], []⟩
structure RowOk (pr : Prg) (r : Row) : Prop where
  nl : (r.d.x == ("<lambda>" : Str)) = false
  sc : FnScope r.N r.d.ps (defScope r.st)
  l1 : r.N.length = r.d.df.slots
  l2 : r.d.ps.length = r.d.df.np
  l3 : r.d.df.modes.length = r.d.df.np
  l4 : r.d.df.np ≤ r.d.df.slots
  bind : ∀ (kV doc pm : Value) (an : Option Addr) (cdv ct : Value) (us ws : List Value), (us ++ ws).length = r.d.ps.length → bindArgs (PySem.W.fnOf r.d.x r.d.x (defArgs r.st) (defBody r.st) (defScope r.st) .none kV doc pm an cdv ct) ⟨us, (r.d.ps.drop us.length).zip ws⟩ = pure (r.d.ps.zip (us ++ ws))
  body : BodyOk pr r.d r.N r.d.x (defScope r.st) (defBody r.st)
/-- all rows in order -/
inductive RowsOk (pr : Prg) : List Row → Prop where
  | nil : RowsOk pr []
  | cons {r : Row} {l : List Row} (h : RowOk pr r) (t : RowsOk pr l) : RowsOk pr (r :: l)
theorem RowsOk.get {pr : Prg} : ∀ {l : List Row}, RowsOk pr l → ∀ r ∈ l, RowOk pr r
  | [], _, r, m => by cases m
  | a :: l, .cons h t, r, m => by
    rcases List.mem_cons.mp m with rfl | m
    · exact h
    · exact t.get r m
inductive LamsOk (pr : Prg) : List (Lam × List Str × Df) → Prop where
  | nil : LamsOk pr []
  | cons {q : Lam × List Str × Df} {l : List (Lam × List Str × Df)} (h : LamK pr q.1 q.2.1 q.2.2) (t : LamsOk pr l) : LamsOk pr (q :: l)
theorem LamsOk.get {pr : Prg} : ∀ {l : List (Lam × List Str × Df)}, LamsOk pr l → ∀ r ∈ l, LamK pr r.1 r.2.1 r.2.2
  | [], _, r, m => by cases m
  | a :: l, .cons h t, r, m => by
    rcases List.mem_cons.mp m with rfl | m
    · exact h
    · exact t.get r m
def hxOf (pr : Prg) (rows : List Row) (ini : IniD) : Hx where
  xs := rows.map (·.d.x) ++ (pr.csts.map (·.1) ++ pr.excs)
  csts := pr.csts
  root := pr.root
  excs := pr.excs
  ini := ini
  fa := rows.map (fun r => .glo r.d.x) ++ pr.blts.map .free
  fn := rows.map Row.dd
section
variable {pr : Prg} {rows : List Row} {ini : IniD} {P : Program} {w : World} {K : PySem.W.Frag} {mg : Str → Option Value} {h : Heap}
theorem getE {α β : Type} {f : α → β} {l : List α} {i : Nat} {a : α} (e : l[i]? = some a) : (l.map f)[i]? = some (f a) := by rw [List.getElem?_map, e]; rfl
theorem ex4 {x : Hx} (c : x.ex P K = true) : x.csts.all (gcB K) = true ∧ x.excs.all (exfB K x.root) = true ∧ kitB K x.excs = true ∧ iniB P K x.root x.ini.qual = true ∧ tabG K = true ∧ (PySem.W.nsIn K mainGlobals x.root).isSome = true := by
  unfold Hx.ex at c
  obtain ⟨h1, c⟩ := Bool.and_eq_true_iff.mp c
  obtain ⟨h2, c⟩ := Bool.and_eq_true_iff.mp c
  obtain ⟨h3, c⟩ := Bool.and_eq_true_iff.mp c
  obtain ⟨h4, c⟩ := Bool.and_eq_true_iff.mp c
  obtain ⟨h5, h6⟩ := Bool.and_eq_true_iff.mp c
  exact ⟨h1, h2, h3, h4, h5, h6⟩
theorem head_of (X : K.In h) (Y : SaysX P (hxOf pr rows ini) K h) (G : h.Ns mainGlobals mg) (hrt : pr.root ∈ pr.excs) (htop : (P.main.scope.names.lookup ("super" : Str)).isSome = false)
    (hini : ∀ (k : PySem.W.Frag) (base : Heap) (D C f cc c' : Addr) (fd : FuncData), InitK P k D f cc c' fd ini.qual ini.params ini.body ini.scope → mg "super" = none → (SubK k D C → FnOk P w k mg base (L2.CX P w) 1 f fd ["self", "value"] (spI C)) ∧ Binds k fd ["self", "value"] [])
    (hsup : ("super" : Str) ∈ pr.blts) : HeadF pr P w K mg := by
  obtain ⟨h1, h2, h3, h4, h5, h6⟩ := ex4 Y.ex
  have fr : ∀ x ∈ pr.blts, mg x = none := fun x hx => by
    obtain ⟨i, hi⟩ := List.mem_iff_getElem?.mp hx
    refine He.free_ok X G (Y.n.all.fact (rows.length + i) ?_)
    show (rows.map (fun r => He.Fa.glo r.d.x) ++ pr.blts.map .free)[rows.length + i]? = some (.free x)
    rw [List.getElem?_append_right (by rw [List.length_map]; omega), List.length_map, Nat.add_sub_cancel_left]
    exact getE hi
  have exc : ∀ x ∈ pr.excs, ExF mg K pr.root x := fun x hx => exfB_ok X G (List.all_eq_true.mp h2 x hx)
  refine ⟨fr, fun q hq => gcB_ok X G (List.all_eq_true.mp h1 q hq), exc, fun x hx y hy => kitB_ok h3 hx hy, ?_, fun hne => ?_, fun _ => hrt⟩
  · obtain ⟨r, e⟩ := Option.isSome_iff_exists.mp h6
    unfold PySem.W.nsIn at e
    split at e
    · rename_i q; rw [q]; rfl
    · cases e
  · obtain ⟨t1, cc, c', fd, I⟩ := ini_ok Y.ini h4 htop
    refine ⟨t1, fd, fun k base x => ⟨fun y hy => ?_, ?_⟩⟩
    · exact (hini k base _ (He.ga K y) _ cc c' fd (InitK.ext x.lk I) (fr _ hsup)).1 (SubK.ext x.lk (exc y hy).sub)
    · exact (hini k base _ (He.ga K pr.root) _ cc c' fd (InitK.ext x.lk I) (fr _ hsup)).2
theorem defK_of (X : K.In h) (Y : SaysX P (hxOf pr rows ini) K h) (G : h.Ns mainGlobals mg) (ok : RowsOk pr rows) : ∀ r ∈ rows, DefK pr K mg r.d := fun r hr => by
  obtain ⟨i, hi⟩ := List.mem_iff_getElem?.mp hr
  have R := ok.get r hr
  obtain ⟨fd, F⟩ := Y.n.all.def_ i (d := r.dd) (getE hi)
  have gl : mg r.d.x = some (.ref (He.ga K r.d.x)) := by
    refine He.glo_ok X G (Y.n.all.fact i ?_)
    show (rows.map (fun r => He.Fa.glo r.d.x) ++ pr.blts.map .free)[i]? = some (.glo r.d.x)
    rw [List.getElem?_append_left (by rw [List.length_map]; exact (List.getElem?_eq_some_iff.mp hi).1)]
    exact getE hi
  refine ⟨He.ga K r.d.x, fd, r.d.x, r.d.x, defArgs r.st, defBody r.st, defScope r.st, r.N, gl, F, R.nl, R.sc, R.l1, R.l2, R.l3, R.l4, fun us ws hl => ?_, R.body⟩
  obtain ⟨oc, od, dV, kV, doc, pm, an, cdv, ct, osl, rfl, lk, hcd, hD, hK⟩ := F.ex
  rcases hD with ⟨_, rfl⟩ | ⟨e, _⟩
  · exact R.bind kV doc pm an cdv ct us ws hl
  · exact absurd rfl e
end
/-- a law -/
theorem law_of {l : PySem.W.OpenLaw} {most m : Nat} {q : Program} {loose : List Str} {XP : (Str → Option Value) → Heap → Prop} {d : DefRec} (pr : Prg) (rows : List Row) (ini : IniD) (j : Nat) (r : Row) (x : Str)
    (hn : l.most = some most) (hn2 : most ≤ sizeLine) (hdf : d.params.defaults = []) (hr : Room (m + 1 + 2) callerA) (hpr : pr.defs = rows.map (·.d)) (ok : RowsOk pr rows) (lk : LamsOk pr pr.lams) (hj : rows[j]? = some r) (hx : r.d.ps = [x]) (hms : r.d.df.modes = [false]) (hname : d.name = r.d.x)
    (hrt : pr.root ∈ pr.excs) (htop : (l.prog.main.scope.names.lookup ("super" : Str)).isSome = false) (hsup : ("super" : Str) ∈ pr.blts)
    (hini : ∀ (w : World) (mg : Str → Option Value) (k : PySem.W.Frag) (base : Heap) (D C f cc c' : Addr) (fd : FuncData), InitK l.prog k D f cc c' fd ini.qual ini.params ini.body ini.scope → mg "super" = none → (SubK k D C → FnOk l.prog w k mg base (L2.CX l.prog w) 1 f fd ["self", "value"] (spI C)) ∧ Binds k fd ["self", "value"] [])
    (hlaw : ∀ ns : List Int, ns.length ≤ most → (∀ k ∈ ns, Builtin.Int.intBits k ≤ 1048576) → callD pr.dfOf (m + 1) j [scr ns] = some (.ok (.bl true) false [])) :
    PySem.W.WalkO q loose XP (hookX l.prog (hxOf pr rows ini)).says l.row.toRowW d [] (fun f vs => PySem.call f vs) := by
  refine walk_x (C := pr.cl []) (x := x) (g := callD pr.dfOf (m + 1) j) hn hn2 hdf hr (fun w mg f h K KX Y G hmg => ?_) hlaw
  have hd : HeadF pr l.prog w K mg := head_of KX Y G hrt htop (fun k base D C f cc c' fd I hs => hini w mg k base D C f cc c' fd I hs) hsup
  have dk := defK_of KX Y G ok
  have all := all_ok (P := l.prog) (w := w) hd (ex4 Y.ex).2.2.2.2.1 (fun d hd => by
    rw [hpr] at hd
    obtain ⟨r, hr, rfl⟩ := List.mem_map.mp hd
    exact dk r hr) lk.get m
  have hjd : pr.defs[j]? = some r.d := by rw [hpr]; exact getE hj
  obtain ⟨f', fd, name, qual, params, body, scope, N, h1, F, hnl, S, l1, l2, l3, l4, hb, B⟩ := (dk r (List.mem_of_getElem? hj)).ex
  have e1 : f' = f := by
    rw [hname] at hmg
    rw [hmg] at h1
    cases h1
    rfl
  subst e1
  refine ⟨fd, fun s u => .of_eq ?_, fun base b => ?_⟩
  · have := hb [u] [] (by rw [hx]; rfl)
    rw [hx] at this
    exact this
  · have g := one_ok (P := l.prog) (w := w) hd (ex4 Y.ex).2.2.2.2.1 all (.refl K) b [] hjd F hnl S l1 l2 l3 l4 B
    rw [hx, hms] at g
    exact g
section
variable {pr : Prg} {k0 : PySem.W.Frag} {X : Cx} {L : List (Str × Addr)} {cf : CallF} {n : Nat} {x : Str} {pos : Pos}
theorem Ax.u1 (A : Ax pr k0 X L cf n) : X.A.units + 1 < cLine := Nat.lt_of_le_of_lt (by omega) A.G.un
theorem q_g (A : Ax pr k0 X L cf n) (i : Nat) (hi : X.N[i]? = some x := by rfl) (hx : Loc X.env.scope x := by first | exact .inl rfl | exact .inr rfl) (hf : X.fn x = true ∨ X.env.scope.names.lookup x = some .local := by first | exact .inl rfl | exact .inr rfl) : PG X (.Name x pos) (gName i) := pg_name A.G.nd hi hx hf
end
theorem lk2 {l : List (Str × NameKind)} {x : Str} (h : (lkB l x == 2) = true) : l.lookup x = some .cell := by
  unfold lkB at h
  cases e : l.lookup x with
  | none => rw [e] at h; cases h
  | some k =>
    rw [e] at h
    cases k with
    | cell => rfl
    | _ => cases h
theorem lamAt_of {X : Cx} {t : Lam} (h1 : (cloFrom X.env.cells t.scope.names []).map (·.1) = t.names) (h2 : t.caps.map (fun i => X.N[i]?) = t.names.map some) (h3 : (t.names.all fun y => lkB X.env.scope.names y == 2) = true) (h4 : t.names.Nodup) : LamAt X t :=
  ⟨h1, h2, fun y hy => lk2 (List.all_eq_true.mp h3 y hy), h4⟩
/-! ### the way to a part of the text -/
def noE : Expr := .Constant .none 0 ⟨0, 0, 0, 0⟩
def noS : Stmt := .Pass ⟨0, 0, 0, 0⟩
def kidE : Expr → Nat → Expr
  | .BinOp a _ b _, i => if i = 0 then a else b
  | .UnaryOp _ a _, _ => a
  | .BoolOp _ es _, i => es.getD i noE
  | .Compare a _ bs _, i => match i with
    | 0 => a
    | i + 1 => bs.getD i noE
  | .Call f as ks _, i => match i with
    | 0 => f
    | i + 1 => if i < as.length then as.getD i noE else match ks[i - as.length]? with
      | some k => k.value
      | none => noE
  | .IfExp a b c _, i => match i with
    | 0 => a
    | 1 => b
    | _ => c
  | .Tuple es _ _, i => es.getD i noE
  | .List es _, i => es.getD i noE
  | .Subscript a b _, i => if i = 0 then a else b
  | .Attribute a _ _, _ => a
  | _, _ => noE
def stE : Stmt → Nat → Expr
  | .Assign _ v _, _ => v
  | .AugAssign _ _ v _, _ => v
  | .Expr v _, _ => v
  | .Return (some v) _, _ => v
  | .If c _ _ _, _ => c
  | .While c _ _ _, _ => c
  | .For _ it _ _ _, _ => it
  | _, _ => noE
def stS : Stmt → Nat → Stmt
  | .If _ a b _, i => if i < a.length then a.getD i noS else b.getD (i - a.length) noS
  | .For _ _ b _ _, i => b.getD i noS
  | .While _ b _ _, i => b.getD i noS
  | .ClassDef _ _ _ b _ _ _ _ _ _ _, i => b.getD i noS
  | _, _ => noS
def lamP : Expr → Arguments
  | .Lambda p _ _ _ => p
  | _ => ⟨[], [], none, [], [], none, []⟩
def lamB : Expr → Expr
  | .Lambda _ b _ _ => b
  | _ => noE
def lamS : Expr → Scope
  | .Lambda _ _ s _ => s
  | _ => ⟨.function, [], false, false, []⟩
end Dn
end

section
set_option linter.all false
set_option autoImplicit false
set_option maxRecDepth 100000
set_option Elab.async false
/-! K69A: the program of k69 over Dn. Written by gen.py. -/
namespace Dn.K69
open PySem PySem.Spec PyProof.Rows L2 Dn
def topS (i : Nat) : Stmt := PySem.Challenge.pw_orderedahead_k69_whole_sharp_stretches.main.body.getD i noS
def excs : List Str := ["StockError", "BadChance", "BadInt", "BadName"]
def c_NOUGHT : Str × D := ("NOUGHT", (.tup [(.int 0), (.int 1)]))
def c_ONE : Str × D := ("ONE", (.tup [(.int 1), (.int 1)]))
def c_HALF : Str × D := ("HALF", (.tup [(.int 1), (.int 2)]))
def c_MOST : Str × D := ("MOST", (.int 1000000000))
def c_MOST_SEEN : Str × D := ("MOST_SEEN", (.int 60))
def c_MOST_FINE : Str × D := ("MOST_FINE", (.int 1000000))
def c_LOW : Str × D := ("LOW", (.str "low"))
def c_HIGH : Str × D := ("HIGH", (.str "high"))
def lamE48 : Expr := (kidE (stE ((defBody (topS 62)).getD 1 noS) 0) 0)
def lam48 : Lam := ⟨"_law_are_odd_refused.<locals>.<lambda>", lamP lamE48, lamB lamE48, lamS lamE48, ["bad"], [1]⟩
def lamE49 : Expr := (kidE (stE ((defBody (topS 62)).getD 2 noS) 0) 1)
def lam49 : Lam := ⟨"_law_are_odd_refused.<locals>.<lambda>", lamP lamE49, lamB lamE49, lamS lamE49, ["bad"], [1]⟩
def lamE50 : Expr := (kidE (stE ((defBody (topS 62)).getD 3 noS) 0) 1)
def lam50 : Lam := ⟨"_law_are_odd_refused.<locals>.<lambda>", lamP lamE50, lamB lamE50, lamS lamE50, ["bad"], [1]⟩
def lamE51 : Expr := (kidE (stE ((defBody (topS 62)).getD 4 noS) 0) 1)
def lam51 : Lam := ⟨"_law_are_odd_refused.<locals>.<lambda>", lamP lamE51, lamB lamE51, lamS lamE51, ["bad"], [1]⟩
def lamE52 : Expr := (kidE (stE ((defBody (topS 62)).getD 7 noS) 0) 0)
def lam52 : Lam := ⟨"_law_are_odd_refused.<locals>.<lambda>", lamP lamE52, lamB lamE52, lamS lamE52, ["bad"], [1]⟩
def lamE53 : Expr := (kidE (stE ((defBody (topS 62)).getD 10 noS) 0) 0)
def lam53 : Lam := ⟨"_law_are_odd_refused.<locals>.<lambda>", lamP lamE53, lamB lamE53, lamS lamE53, ["bad"], [1]⟩
def lamE54 : Expr := (kidE (stE ((defBody (topS 62)).getD 11 noS) 0) 1)
def lam54 : Lam := ⟨"_law_are_odd_refused.<locals>.<lambda>", lamP lamE54, lamB lamE54, lamS lamE54, ["bad"], [1]⟩
def lamE55 : Expr := (kidE (stE ((defBody (topS 62)).getD 12 noS) 0) 1)
def lam55 : Lam := ⟨"_law_are_odd_refused.<locals>.<lambda>", lamP lamE55, lamB lamE55, lamS lamE55, ["bad"], [1]⟩
def lamE56 : Expr := (kidE (stE ((defBody (topS 62)).getD 15 noS) 0) 0)
def lam56 : Lam := ⟨"_law_are_odd_refused.<locals>.<lambda>", lamP lamE56, lamB lamE56, lamS lamE56, ["bad"], [1]⟩
def lamE57 : Expr := (kidE (stE ((defBody (topS 62)).getD 16 noS) 0) 1)
def lam57 : Lam := ⟨"_law_are_odd_refused.<locals>.<lambda>", lamP lamE57, lamB lamE57, lamS lamE57, ["bad"], [1]⟩
def lamE58 : Expr := (kidE (stE ((defBody (topS 62)).getD 17 noS) 0) 1)
def lam58 : Lam := ⟨"_law_are_odd_refused.<locals>.<lambda>", lamP lamE58, lamB lamE58, lamS lamE58, ["bad"], [1]⟩
def lamE59 : Expr := (kidE (stE ((defBody (topS 62)).getD 20 noS) 0) 0)
def lam59 : Lam := ⟨"_law_are_odd_refused.<locals>.<lambda>", lamP lamE59, lamB lamE59, lamS lamE59, ["bad"], [1]⟩
def lamE60 : Expr := (kidE (stE ((defBody (topS 62)).getD 21 noS) 0) 1)
def lam60 : Lam := ⟨"_law_are_odd_refused.<locals>.<lambda>", lamP lamE60, lamB lamE60, lamS lamE60, ["bad"], [1]⟩
def lamE61 : Expr := (kidE (stE ((defBody (topS 62)).getD 22 noS) 0) 1)
def lam61 : Lam := ⟨"_law_are_odd_refused.<locals>.<lambda>", lamP lamE61, lamB lamE61, lamS lamE61, ["bad"], [1]⟩
def lamE62 : Expr := (kidE (stE ((defBody (topS 62)).getD 25 noS) 0) 0)
def lam62 : Lam := ⟨"_law_are_odd_refused.<locals>.<lambda>", lamP lamE62, lamB lamE62, lamS lamE62, ["bad"], [1]⟩
def lamE63 : Expr := (kidE (stE ((defBody (topS 62)).getD 26 noS) 0) 2)
def lam63 : Lam := ⟨"_law_are_odd_refused.<locals>.<lambda>", lamP lamE63, lamB lamE63, lamS lamE63, [], []⟩
def lamE64 : Expr := (kidE (kidE (stE ((defBody (topS 62)).getD 5 noS) 0) 0) 2)
def lam64 : Lam := ⟨"_law_are_odd_refused.<locals>.<lambda>", lamP lamE64, lamB lamE64, lamS lamE64, [], []⟩
def lamE65 : Expr := (kidE (kidE (stE ((defBody (topS 62)).getD 8 noS) 0) 0) 2)
def lam65 : Lam := ⟨"_law_are_odd_refused.<locals>.<lambda>", lamP lamE65, lamB lamE65, lamS lamE65, [], []⟩
def lamE66 : Expr := (kidE (kidE (stE ((defBody (topS 62)).getD 13 noS) 0) 0) 2)
def lam66 : Lam := ⟨"_law_are_odd_refused.<locals>.<lambda>", lamP lamE66, lamB lamE66, lamS lamE66, [], []⟩
def lamE67 : Expr := (kidE (kidE (stE ((defBody (topS 62)).getD 18 noS) 0) 0) 2)
def lam67 : Lam := ⟨"_law_are_odd_refused.<locals>.<lambda>", lamP lamE67, lamB lamE67, lamS lamE67, [], []⟩
def lamE68 : Expr := (kidE (kidE (stE ((defBody (topS 62)).getD 23 noS) 0) 0) 2)
def lam68 : Lam := ⟨"_law_are_odd_refused.<locals>.<lambda>", lamP lamE68, lamB lamE68, lamS lamE68, [], []⟩
def df_is_int : Df := ⟨3, [false, false, false], 3, false, .cons (.ret (.andE (.e (.bl1 (.isi .int) (.pek 0))) (.andE (.e (.notE (.e (.bl1 (.isi .bool) (.pek 0))))) (.chn .le .le (.pek 1) (.pek 0) (.pek 2))))) (.nil)⟩
def d_is_int : Dd := ⟨"is_int", ["value", "least", "most"], df_is_int⟩
def df_told_fraction : Df := ⟨2, [false, false], 5, false, .cons (.par [2, 3] (.cons (.bl1 .abs (.pek 0)) (.cons (.bl1 .abs (.pek 1)) (.nil)))) (.cons (.whl (.val (.e (.cmp .ne (.pek 3) (.e (.cst (.int 0)))))) (.cons (.par [2, 3] (.cons (.var 3) (.cons (.bin .mod (.pek 2) (.pek 3)) (.nil)))) (.nil))) (.cons (.asg (.nm 4) (.ite (.val (.e (.cmp .lt (.pek 1) (.e (.cst (.int 0)))))) (.neg (.pek 2)) (.var 2))) (.cons (.ret (.tup (.cons (.bin .fdiv (.pek 0) (.pek 4)) (.cons (.bin .fdiv (.pek 1) (.pek 4)) (.nil))))) (.nil))))⟩
def d_told_fraction : Dd := ⟨"told_fraction", ["top", "bottom"], df_told_fraction⟩
def df_is_exact : Df := ⟨1, [false], 2, false, .cons (.ite (.or_ (.not_ (.val (.e (.bl1 (.isi .tuple) (.pek 0))))) (.val (.e (.cmp .ne (.e (.bl1 .len (.pek 0))) (.e (.cst (.int 2))))))) (.cons (.ret (.cst (.bl false))) (.nil)) (.nil)) (.cons (.ite (.not_ (.val (.e (.bl1 .all (.e (.cmp1 (.andE (.e (.bl1 (.isi .int) (.pek 1))) (.notE (.e (.bl1 (.isi .bool) (.pek 1))))) (.nm 1) (.seq (.var 0)) (.nil) [1] 2)))))) (.cons (.ret (.cst (.bl false))) (.nil)) (.nil)) (.cons (.ret (.andE (.e (.cmp .gt (.e (.idx (.pek 0) (.e (.cst (.int 1))))) (.e (.cst (.int 0))))) (.cmp .eq (.e (.cal 1 (.val (.idx (.pek 0) (.e (.cst (.int 0)))) (.val (.idx (.pek 0) (.e (.cst (.int 1)))) (.nil))))) (.pek 0)))) (.nil)))⟩
def d_is_exact : Dd := ⟨"is_exact", ["value"], df_is_exact⟩
def df_is_fraction : Df := ⟨1, [false], 1, false, .cons (.ret (.andE (.e (.cal 2 (.val (.var 0) (.nil)))) (.andE (.e (.cal 0 (.val (.idx (.pek 0) (.e (.cst (.int 0)))) (.val (.neg (.e (.cst (.int 1000000000)))) (.val (.cst (.int 1000000000)) (.nil)))))) (.cmp .le (.e (.idx (.pek 0) (.e (.cst (.int 1))))) (.e (.cst (.int 1000000000))))))) (.nil)⟩
def d_is_fraction : Dd := ⟨"is_fraction", ["value"], df_is_fraction⟩
def df_is_price : Df := ⟨1, [false], 1, false, .cons (.ret (.andE (.e (.cal 3 (.val (.var 0) (.nil)))) (.cmp .ge (.e (.idx (.pek 0) (.e (.cst (.int 0))))) (.e (.cst (.int 0)))))) (.nil)⟩
def d_is_price : Dd := ⟨"is_price", ["value"], df_is_price⟩
def df_is_chance : Df := ⟨1, [false], 1, false, .cons (.ret (.andE (.e (.cal 4 (.val (.var 0) (.nil)))) (.cmp .le (.e (.idx (.pek 0) (.e (.cst (.int 0))))) (.e (.idx (.pek 0) (.e (.cst (.int 1)))))))) (.nil)⟩
def d_is_chance : Dd := ⟨"is_chance", ["value"], df_is_chance⟩
def df_look_at_chance : Df := ⟨1, [false], 1, false, .cons (.ite (.not_ (.val (.e (.cal 5 (.val (.var 0) (.nil)))))) (.cons (.rais "BadChance" (.var 0)) (.nil)) (.nil)) (.nil)⟩
def d_look_at_chance : Dd := ⟨"look_at_chance", ["value"], df_look_at_chance⟩
def df_times : Df := ⟨2, [false, false], 2, false, .cons (.ret (.cal 1 (.val (.bin .mul (.e (.idx (.pek 0) (.e (.cst (.int 0))))) (.e (.idx (.pek 1) (.e (.cst (.int 0)))))) (.val (.bin .mul (.e (.idx (.pek 0) (.e (.cst (.int 1))))) (.e (.idx (.pek 1) (.e (.cst (.int 1)))))) (.nil))))) (.nil)⟩
def d_times : Dd := ⟨"times", ["one", "other"], df_times⟩
def df_is_less : Df := ⟨2, [false, false], 2, false, .cons (.ret (.cmp .lt (.e (.bin .mul (.e (.idx (.pek 0) (.e (.cst (.int 0))))) (.e (.idx (.pek 1) (.e (.cst (.int 1))))))) (.e (.bin .mul (.e (.idx (.pek 1) (.e (.cst (.int 0))))) (.e (.idx (.pek 0) (.e (.cst (.int 1))))))))) (.nil)⟩
def d_is_less : Dd := ⟨"is_less", ["one", "other"], df_is_less⟩
def df_told_ways : Df := ⟨2, [false, false], 4, false, .cons (.asg (.nm 2) (.cst (.int 1))) (.cons (.for_ (.nm 3) (.rng1 (.pek 1)) (.cons (.asg (.nm 2) (.bin .fdiv (.e (.bin .mul (.pek 2) (.e (.bin .sub (.pek 0) (.pek 3))))) (.e (.bin .add (.pek 3) (.e (.cst (.int 1))))))) (.nil))) (.cons (.retv 2) (.nil)))⟩
def d_told_ways : Dd := ⟨"told_ways", ["many", "some"], df_told_ways⟩
def df_told_parts : Df := ⟨2, [false, false], 9, false, .cons (.asg (.tp (.cons (.nm 2) (.cons (.nm 3) (.nil)))) (.var 1)) (.cons (.par [4, 5, 6] (.cons (.lst (.cons (.cst (.int 1)) (.nil))) (.cons (.lst (.cons (.cst (.int 1)) (.nil))) (.cons (.cst (.int 1)) (.nil))))) (.cons (.for_ (.nm 7) (.rng1 (.pek 0)) (.cons (.app 4 (.bin .mul (.e (.idx (.pek 4) (.e (.neg (.e (.cst (.int 1))))))) (.pek 2))) (.cons (.app 5 (.bin .mul (.e (.idx (.pek 5) (.e (.neg (.e (.cst (.int 1))))))) (.e (.bin .sub (.pek 3) (.pek 2))))) (.cons (.aug 6 .mul (.pek 3)) (.nil))))) (.cons (.ret (.tup (.cons (.cmp1 (.bin .mul (.e (.bin .mul (.e (.cal 9 (.val (.var 0) (.val (.var 8) (.nil))))) (.e (.idx (.pek 4) (.pek 8))))) (.e (.idx (.pek 5) (.e (.bin .sub (.pek 0) (.pek 8)))))) (.nm 8) (.rng1 (.e (.bin .add (.pek 0) (.e (.cst (.int 1)))))) (.nil) [8] 9) (.cons (.var 6) (.nil))))) (.nil))))⟩
def d_told_parts : Dd := ⟨"told_parts", ["many", "chance"], df_told_parts⟩
def df_told_at_least : Df := ⟨3, [false, false, false], 5, false, .cons (.asg (.tp (.cons (.nm 3) (.cons (.nm 4) (.nil)))) (.cal 10 (.val (.var 0) (.val (.var 2) (.nil))))) (.cons (.ret (.cal 1 (.val (.bl1 .sum (.e (.slc (.pek 3) (.so (.pek 1)) (.no)))) (.val (.var 4) (.nil))))) (.nil))⟩
def d_told_at_least : Dd := ⟨"told_at_least", ["many", "some", "chance"], df_told_at_least⟩
def df_told_no_more : Df := ⟨3, [false, false, false], 5, false, .cons (.asg (.tp (.cons (.nm 3) (.cons (.nm 4) (.nil)))) (.cal 10 (.val (.var 0) (.val (.var 2) (.nil))))) (.cons (.ret (.cal 1 (.val (.bl1 .sum (.e (.slc (.pek 3) (.no) (.so (.e (.bin .add (.pek 1) (.e (.cst (.int 1))))))))) (.val (.var 4) (.nil))))) (.nil))⟩
def d_told_no_more : Dd := ⟨"told_no_more", ["many", "some", "chance"], df_told_no_more⟩
def df_look_at_seen : Df := ⟨2, [false, false], 2, false, .cons (.ite (.not_ (.val (.e (.cal 0 (.val (.var 0) (.val (.cst (.int 1)) (.val (.cst (.int 60)) (.nil)))))))) (.cons (.rais "BadInt" (.var 0)) (.nil)) (.nil)) (.cons (.ite (.not_ (.val (.e (.cal 0 (.val (.var 1) (.val (.cst (.int 0)) (.val (.var 0) (.nil)))))))) (.cons (.rais "BadInt" (.var 1)) (.nil)) (.nil)) (.nil))⟩
def d_look_at_seen : Dd := ⟨"look_at_seen", ["many", "some"], df_look_at_seen⟩
def df_chance_at_least : Df := ⟨3, [false, false, false], 3, false, .cons (.xexp (.cal 13 (.val (.var 0) (.val (.var 1) (.nil))))) (.cons (.xexp (.cal 6 (.val (.var 2) (.nil)))) (.cons (.ret (.cal 11 (.val (.var 0) (.val (.var 1) (.val (.var 2) (.nil)))))) (.nil)))⟩
def d_chance_at_least : Dd := ⟨"chance_at_least", ["many", "some", "chance"], df_chance_at_least⟩
def df_chance_no_more : Df := ⟨3, [false, false, false], 3, false, .cons (.xexp (.cal 13 (.val (.var 0) (.val (.var 1) (.nil))))) (.cons (.xexp (.cal 6 (.val (.var 2) (.nil)))) (.cons (.ret (.cal 12 (.val (.var 0) (.val (.var 1) (.val (.var 2) (.nil)))))) (.nil)))⟩
def d_chance_no_more : Dd := ⟨"chance_no_more", ["many", "some", "chance"], df_chance_no_more⟩
def df_look_at_error : Df := ⟨1, [false], 1, false, .cons (.ite (.or_ (.not_ (.val (.e (.cal 5 (.val (.var 0) (.nil)))))) (.val (.e (.cmp .in_ (.pek 0) (.e (.tup (.cons (.cst (.tup [(.int 0), (.int 1)])) (.cons (.cst (.tup [(.int 1), (.int 1)])) (.nil))))))))) (.cons (.rais "BadChance" (.var 0)) (.nil)) (.nil)) (.nil)⟩
def d_look_at_error : Dd := ⟨"look_at_error", ["error"], df_look_at_error⟩
def df_told_is_in : Df := ⟨4, [false, false, false, false], 5, false, .cons (.asg (.nm 4) (.bin .mul (.e (.idx (.pek 3) (.e (.cst (.int 0))))) (.pek 1))) (.cons (.ite (.val (.e (.cmp .lt (.e (.bin .mul (.e (.bin .mul (.e (.bl1 .sum (.e (.slc (.pek 0) (.so (.pek 2)) (.no))))) (.e (.cst (.int 2))))) (.e (.idx (.pek 3) (.e (.cst (.int 1))))))) (.pek 4)))) (.cons (.ret (.cst (.bl false))) (.nil)) (.nil)) (.cons (.ret (.cmp .ge (.e (.bin .mul (.e (.bin .mul (.e (.bl1 .sum (.e (.slc (.pek 0) (.no) (.so (.e (.bin .add (.pek 2) (.e (.cst (.int 1)))))))))) (.e (.cst (.int 2))))) (.e (.idx (.pek 3) (.e (.cst (.int 1))))))) (.pek 4))) (.nil)))⟩
def d_told_is_in : Dd := ⟨"told_is_in", ["parts", "whole", "some", "error"], df_told_is_in⟩
def df_is_in_stretch : Df := ⟨4, [false, false, false, false], 6, false, .cons (.xexp (.cal 13 (.val (.var 0) (.val (.var 1) (.nil))))) (.cons (.xexp (.cal 16 (.val (.var 2) (.nil)))) (.cons (.xexp (.cal 6 (.val (.var 3) (.nil)))) (.cons (.asg (.tp (.cons (.nm 4) (.cons (.nm 5) (.nil)))) (.cal 10 (.val (.var 0) (.val (.var 3) (.nil))))) (.cons (.ret (.cal 17 (.val (.var 4) (.val (.var 5) (.val (.var 1) (.val (.var 2) (.nil))))))) (.nil)))))⟩
def d_is_in_stretch : Dd := ⟨"is_in_stretch", ["many", "some", "error", "chance"], df_is_in_stretch⟩
def df_told_steps : Df := ⟨5, [false, false, false, false, false], 10, false, .cons (.par [5, 6] (.cons (.cst (.int 0)) (.cons (.var 4) (.nil)))) (.cons (.whl (.val (.e (.cmp .gt (.e (.bin .sub (.pek 6) (.pek 5))) (.e (.cst (.int 1)))))) (.cons (.asg (.nm 7) (.bin .fdiv (.e (.bin .add (.pek 5) (.pek 6))) (.e (.cst (.int 2))))) (.cons (.asg (.nm 8) (.cal 1 (.val (.var 7) (.val (.var 4) (.nil))))) (.cons (.ite (.val (.e (.cmp .eq (.pek 3) (.e (.cst (.str "low")))))) (.cons (.asg (.nm 9) (.cal 8 (.val (.cal 11 (.val (.var 0) (.val (.var 1) (.val (.var 8) (.nil))))) (.val (.var 2) (.nil))))) (.nil)) (.cons (.asg (.nm 9) (.notE (.e (.cal 8 (.val (.cal 12 (.val (.var 0) (.val (.var 1) (.val (.var 8) (.nil))))) (.val (.var 2) (.nil))))))) (.nil))) (.cons (.asg (.tp (.cons (.nm 5) (.cons (.nm 6) (.nil)))) (.ite (.val (.pek 9)) (.tup (.cons (.var 7) (.cons (.var 6) (.nil)))) (.tup (.cons (.var 5) (.cons (.var 7) (.nil)))))) (.nil)))))) (.cons (.retv 5) (.nil)))⟩
def d_told_steps : Dd := ⟨"told_steps", ["many", "some", "half", "side", "fine"], df_told_steps⟩
def df_end_of_stretch : Df := ⟨5, [false, false, false, false, false], 6, false, .cons (.xexp (.cal 13 (.val (.var 0) (.val (.var 1) (.nil))))) (.cons (.xexp (.cal 16 (.val (.var 2) (.nil)))) (.cons (.ite (.or_ (.not_ (.val (.e (.bl1 (.isi .str) (.pek 3))))) (.val (.e (.cmp .notin (.pek 3) (.e (.tup (.cons (.cst (.str "low")) (.cons (.cst (.str "high")) (.nil))))))))) (.cons (.rais "BadName" (.var 3)) (.nil)) (.nil)) (.cons (.ite (.not_ (.val (.e (.cal 0 (.val (.var 4) (.val (.cst (.int 1)) (.val (.cst (.int 1000000)) (.nil)))))))) (.cons (.rais "BadInt" (.var 4)) (.nil)) (.nil)) (.cons (.ite (.and_ (.val (.e (.cmp .eq (.pek 3) (.e (.cst (.str "low")))))) (.val (.e (.cmp .eq (.pek 1) (.e (.cst (.int 0))))))) (.cons (.ret (.tup (.cons (.cst (.tup [(.int 0), (.int 1)])) (.cons (.cst (.tup [(.int 0), (.int 1)])) (.nil))))) (.nil)) (.nil)) (.cons (.ite (.and_ (.val (.e (.cmp .eq (.pek 3) (.e (.cst (.str "high")))))) (.val (.e (.cmp .eq (.pek 1) (.pek 0))))) (.cons (.ret (.tup (.cons (.cst (.tup [(.int 1), (.int 1)])) (.cons (.cst (.tup [(.int 1), (.int 1)])) (.nil))))) (.nil)) (.nil)) (.cons (.asg (.nm 5) (.cal 19 (.val (.var 0) (.val (.var 1) (.val (.cal 7 (.val (.var 2) (.val (.cst (.tup [(.int 1), (.int 2)])) (.nil)))) (.val (.var 3) (.val (.var 4) (.nil)))))))) (.cons (.ret (.tup (.cons (.cal 1 (.val (.var 5) (.val (.var 4) (.nil)))) (.cons (.cal 1 (.val (.bin .add (.pek 5) (.e (.cst (.int 1)))) (.val (.var 4) (.nil)))) (.nil))))) (.nil))))))))⟩
def d_end_of_stretch : Dd := ⟨"end_of_stretch", ["many", "some", "error", "side", "fine"], df_end_of_stretch⟩
def df_left_out : Df := ⟨3, [false, false, false], 8, false, .cons (.ite (.not_ (.val (.e (.cal 0 (.val (.var 0) (.val (.cst (.int 1)) (.val (.cst (.int 60)) (.nil)))))))) (.cons (.rais "BadInt" (.var 0)) (.nil)) (.nil)) (.cons (.xexp (.cal 16 (.val (.var 1) (.nil)))) (.cons (.xexp (.cal 6 (.val (.var 2) (.nil)))) (.cons (.asg (.tp (.cons (.nm 3) (.cons (.nm 4) (.nil)))) (.cal 10 (.val (.var 0) (.val (.var 2) (.nil))))) (.cons (.asg (.nm 5) (.cmp1 (.var 7) (.tp (.cons (.nm 6) (.cons (.nm 7) (.nil)))) (.enm (.var 3)) (.one (.not_ (.val (.e (.cal 17 (.val (.var 3) (.val (.var 4) (.val (.var 6) (.val (.var 1) (.nil)))))))))) [6, 7] 8)) (.cons (.ret (.cal 1 (.val (.bl1 .sum (.pek 5)) (.val (.var 4) (.nil))))) (.nil))))))⟩
def d_left_out : Dd := ⟨"left_out", ["many", "error", "chance"], df_left_out⟩
def df_seen_in : Df := ⟨3, [false, false, false], 6, false, .cons (.ite (.not_ (.val (.e (.cal 0 (.val (.var 0) (.val (.cst (.int 1)) (.val (.cst (.int 60)) (.nil)))))))) (.cons (.rais "BadInt" (.var 0)) (.nil)) (.nil)) (.cons (.xexp (.cal 16 (.val (.var 1) (.nil)))) (.cons (.xexp (.cal 6 (.val (.var 2) (.nil)))) (.cons (.asg (.tp (.cons (.nm 3) (.cons (.nm 4) (.nil)))) (.cal 10 (.val (.var 0) (.val (.var 2) (.nil))))) (.cons (.ret (.bl1 .tuple (.e (.cmp1 (.var 5) (.nm 5) (.rng1 (.e (.bin .add (.pek 0) (.e (.cst (.int 1)))))) (.one (.val (.e (.cal 17 (.val (.var 3) (.val (.var 4) (.val (.var 5) (.val (.var 1) (.nil))))))))) [5] 6)))) (.nil)))))⟩
def d_seen_in : Dd := ⟨"seen_in", ["many", "error", "chance"], df_seen_in⟩
def df__law_pot : Df := ⟨2, [false, false], 5, false, .cons (.asg (.nm 2) (.ite (.val (.e (.cmp .lt (.pek 1) (.e (.bl1 .len (.pek 0)))))) (.idx (.pek 0) (.pek 1)) (.bin .add (.e (.bin .add (.e (.bin .mod (.e (.bl1 .int (.e (.bl1 .sum (.e (.slc (.pek 0) (.no) (.so (.e (.cst (.int 1)))))))))) (.e (.cst (.int 1000381))))) (.e (.bin .mul (.e (.cst (.int 5077))) (.pek 1))))) (.e (.cst (.int 3121)))))) (.cons (.asg (.nm 3) (.bin .mul (.e (.bin .mod (.e (.bl1 .int (.e (.bl1 .abs (.pek 2))))) (.e (.bin .pow (.e (.bin .pow (.e (.cst (.int 10))) (.e (.cst (.int 60))))) (.e (.cst (.int 5))))))) (.e (.bl1 .int (.e (.cmp .ge (.e (.bl1 .abs (.pek 2))) (.e (.bin .pow (.e (.cst (.int 10))) (.e (.cst (.int 18))))))))))) (.cons (.asg (.nm 4) (.bin .mod (.e (.bl1 .int (.pek 2))) (.e (.cst (.int 2305843009213693921))))) (.cons (.ret (.lst (.cons (.var 3) (.cons (.bin .mod (.e (.bl1 .int (.e (.bin .add (.e (.bin .add (.e (.bin .mul (.pek 4) (.e (.cst (.int 70207))))) (.e (.bin .mul (.e (.bin .mul (.e (.cst (.int 13099))) (.pek 1))) (.pek 1))))) (.e (.cst (.int 2957))))))) (.e (.cst (.int 2305843009213693921)))) (.cons (.cst (.int 0)) (.nil)))))) (.nil))))⟩
def d__law_pot : Dd := ⟨"_law_pot", ["script", "place"], df__law_pot⟩
def df__law_take : Df := ⟨2, [true, false], 5, false, .cons (.ite (.val (.e (.cmp .gt (.e (.idx (.pek 0) (.e (.cst (.int 0))))) (.e (.cst (.int 0)))))) (.cons (.asg (.nm 2) (.bin .mod (.e (.bl1 .int (.e (.idx (.pek 0) (.e (.cst (.int 0))))))) (.pek 1))) (.cons (.set 0 (.e (.cst (.int 0))) (.bin .fdiv (.e (.idx (.pek 0) (.e (.cst (.int 0))))) (.pek 1))) (.cons (.retv 2) (.nil)))) (.nil)) (.cons (.set 0 (.e (.cst (.int 2))) (.bin .add (.e (.idx (.pek 0) (.e (.cst (.int 2))))) (.e (.cst (.int 1))))) (.cons (.asg (.nm 3) (.idx (.e (.lst (.cons (.cst (.int 2147483647)) (.cons (.cst (.int 2147483629)) (.cons (.cst (.int 2147483587)) (.cons (.cst (.int 2147483579)) (.cons (.cst (.int 2147483563)) (.nil)))))))) (.e (.bin .mod (.e (.bl1 .int (.e (.idx (.pek 0) (.e (.cst (.int 2))))))) (.e (.cst (.int 5))))))) (.cons (.asg (.nm 4) (.bin .mod (.e (.bl1 .int (.e (.bin .pow (.e (.bl1 .int (.e (.bin .add (.e (.bin .add (.e (.idx (.pek 0) (.e (.cst (.int 1))))) (.e (.bin .mul (.e (.bin .mul (.e (.cst (.int 90007))) (.e (.idx (.pek 0) (.e (.cst (.int 2))))))) (.e (.idx (.pek 0) (.e (.cst (.int 2))))))))) (.e (.cst (.int 3011))))))) (.e (.cst (.int 3))))))) (.pek 3))) (.cons (.asg (.nm 4) (.bin .mod (.e (.bl1 .int (.e (.bin .mul (.pek 4) (.e (.bin .add (.e (.bin .mod (.e (.bl1 .int (.pek 4))) (.e (.cst (.int 13729))))) (.e (.bin .mul (.e (.cst (.int 433))) (.e (.idx (.pek 0) (.e (.cst (.int 2))))))))))))) (.e (.cst (.int 2305843009213693907))))) (.cons (.ret (.bin .mod (.e (.bl1 .int (.e (.bin .fdiv (.pek 4) (.e (.cst (.int 239))))))) (.pek 1))) (.nil))))))⟩
def d__law_take : Dd := ⟨"_law_take", ["pot", "upto"], df__law_take⟩
def df__law_of : Df := ⟨2, [true, false], 2, false, .cons (.ret (.idx (.pek 1) (.e (.cal 24 (.ref 0 (.val (.bl1 .len (.pek 1)) (.nil))))))) (.nil)⟩
def d__law_of : Dd := ⟨"_law_of", ["pot", "some"], df__law_of⟩
def df__law_cells : Df := ⟨2, [false, false], 2, false, .cons (.ret (.lrg false (.rng1 (.e (.bl2 .max (.e (.cst (.int 1))) (.e (.bl2 .min (.pek 1) (.e (.bl1 .len (.pek 0)))))))))) (.nil)⟩
def d__law_cells : Dd := ⟨"_law_cells", ["script", "most"], df__law_cells⟩
def df__law_heard : Df := ⟨1, [false], 4, false, .cons (.par [1, 2] (.cons (.cst .non) (.cons (.cst .non) (.nil)))) (.cons (.tryx 2 (.clv 0 .nil) 3 1 excs) (.cons (.ret (.tup (.cons (.var 1) (.cons (.var 2) (.nil))))) (.nil)))⟩
def d__law_heard : Dd := ⟨"_law_heard", ["call"], df__law_heard⟩
def df__law_is_bool : Df := ⟨2, [false, false], 2, false, .cons (.ret (.andE (.e (.bl1 (.isi .bool) (.pek 0))) (.cmp .eq (.pek 0) (.pek 1)))) (.nil)⟩
def d__law_is_bool : Dd := ⟨"_law_is_bool", ["told", "due"], df__law_is_bool⟩
def df__law_frac : Df := ⟨2, [false, false], 5, false, .cons (.par [2, 3] (.cons (.bl1 .abs (.pek 0)) (.cons (.bl1 .abs (.pek 1)) (.nil)))) (.cons (.whl (.val (.e (.cmp .ne (.pek 3) (.e (.cst (.int 0)))))) (.cons (.par [2, 3] (.cons (.var 3) (.cons (.bin .mod (.pek 2) (.pek 3)) (.nil)))) (.nil))) (.cons (.asg (.nm 4) (.ite (.val (.e (.cmp .lt (.pek 1) (.e (.cst (.int 0)))))) (.neg (.e (.cst (.int 1)))) (.cst (.int 1)))) (.cons (.ret (.tup (.cons (.bin .fdiv (.e (.bin .mul (.pek 4) (.pek 0))) (.pek 2)) (.cons (.bin .fdiv (.e (.bin .mul (.pek 4) (.pek 1))) (.pek 2)) (.nil))))) (.nil))))⟩
def d__law_frac : Dd := ⟨"_law_frac", ["top", "bottom"], df__law_frac⟩
def df__law_plus : Df := ⟨2, [false, false], 2, false, .cons (.ret (.cal 29 (.val (.bin .add (.e (.bin .mul (.e (.idx (.pek 0) (.e (.cst (.int 0))))) (.e (.idx (.pek 1) (.e (.cst (.int 1))))))) (.e (.bin .mul (.e (.idx (.pek 1) (.e (.cst (.int 0))))) (.e (.idx (.pek 0) (.e (.cst (.int 1)))))))) (.val (.bin .mul (.e (.idx (.pek 0) (.e (.cst (.int 1))))) (.e (.idx (.pek 1) (.e (.cst (.int 1)))))) (.nil))))) (.nil)⟩
def d__law_plus : Dd := ⟨"_law_plus", ["one", "other"], df__law_plus⟩
def df__law_times : Df := ⟨2, [false, false], 2, false, .cons (.ret (.cal 29 (.val (.bin .mul (.e (.idx (.pek 0) (.e (.cst (.int 0))))) (.e (.idx (.pek 1) (.e (.cst (.int 0)))))) (.val (.bin .mul (.e (.idx (.pek 0) (.e (.cst (.int 1))))) (.e (.idx (.pek 1) (.e (.cst (.int 1)))))) (.nil))))) (.nil)⟩
def d__law_times : Dd := ⟨"_law_times", ["one", "other"], df__law_times⟩
def df__law_less : Df := ⟨2, [false, false], 2, false, .cons (.ret (.cal 29 (.val (.bin .sub (.e (.bin .mul (.e (.idx (.pek 0) (.e (.cst (.int 0))))) (.e (.idx (.pek 1) (.e (.cst (.int 1))))))) (.e (.bin .mul (.e (.idx (.pek 1) (.e (.cst (.int 0))))) (.e (.idx (.pek 0) (.e (.cst (.int 1)))))))) (.val (.bin .mul (.e (.idx (.pek 0) (.e (.cst (.int 1))))) (.e (.idx (.pek 1) (.e (.cst (.int 1)))))) (.nil))))) (.nil)⟩
def d__law_less : Dd := ⟨"_law_less", ["one", "other"], df__law_less⟩
def df__law_sum : Df := ⟨1, [false], 3, false, .cons (.asg (.nm 1) (.tup (.cons (.cst (.int 0)) (.cons (.cst (.int 1)) (.nil))))) (.cons (.for_ (.nm 2) (.seq (.var 0)) (.cons (.asg (.nm 1) (.cal 30 (.val (.var 1) (.val (.var 2) (.nil))))) (.nil))) (.cons (.retv 1) (.nil)))⟩
def d__law_sum : Dd := ⟨"_law_sum", ["some"], df__law_sum⟩
def df__law_is_less : Df := ⟨2, [false, false], 2, false, .cons (.ret (.cmp .lt (.e (.bin .mul (.e (.idx (.pek 0) (.e (.cst (.int 0))))) (.e (.idx (.pek 1) (.e (.cst (.int 1))))))) (.e (.bin .mul (.e (.idx (.pek 1) (.e (.cst (.int 0))))) (.e (.idx (.pek 0) (.e (.cst (.int 1))))))))) (.nil)⟩
def d__law_is_less : Dd := ⟨"_law_is_less", ["one", "other"], df__law_is_less⟩
def df__law_is_exact : Df := ⟨1, [false], 2, false, .cons (.ite (.or_ (.not_ (.val (.e (.bl1 (.isi .tuple) (.pek 0))))) (.or_ (.val (.e (.cmp .ne (.e (.bl1 .len (.pek 0))) (.e (.cst (.int 2)))))) (.not_ (.val (.e (.bl1 .all (.e (.cmp1 (.bl1 (.isi .int) (.pek 1)) (.nm 1) (.seq (.var 0)) (.nil) [1] 2)))))))) (.cons (.ret (.cst (.bl false))) (.nil)) (.nil)) (.cons (.ite (.or_ (.val (.e (.bl1 .any (.e (.cmp1 (.bl1 (.isi .bool) (.pek 1)) (.nm 1) (.seq (.var 0)) (.nil) [1] 2))))) (.val (.e (.cmp .lt (.e (.idx (.pek 0) (.e (.cst (.int 1))))) (.e (.cst (.int 1))))))) (.cons (.ret (.cst (.bl false))) (.nil)) (.nil)) (.cons (.ret (.cmp .eq (.e (.cal 29 (.val (.idx (.pek 0) (.e (.cst (.int 0)))) (.val (.idx (.pek 0) (.e (.cst (.int 1)))) (.nil))))) (.pek 0))) (.nil)))⟩
def d__law_is_exact : Dd := ⟨"_law_is_exact", ["value"], df__law_is_exact⟩
def df__law_are_refused : Df := ⟨3, [false, false, false], 5, false, .cons (.for_ (.nm 3) (.seq (.var 0)) (.cons (.asg (.nm 4) (.idx (.e (.cal 27 (.val (.var 3) (.nil)))) (.e (.cst (.int 0))))) (.cons (.ite (.or_ (.val (.e (.cmp .is_ (.pek 4) (.e (.cst .non))))) (.or_ (.not_ (.val (.e (.clv 1 (.val (.var 4) (.nil)))))) (.val (.e (.cmp .ne (.e (.bl1 .repr (.e (.exv (.pek 4) excs)))) (.e (.bl1 .repr (.pek 2)))))))) (.cons (.ret (.cst (.bl false))) (.nil)) (.nil)) (.nil)))) (.cons (.ret (.cst (.bl true))) (.nil))⟩
def d__law_are_refused : Dd := ⟨"_law_are_refused", ["looks", "is_kind", "value"], df__law_are_refused⟩
def df__law_bad_chances : Df := ⟨1, [true], 1, false, .cons (.ret (.cal 25 (.ref 0 (.val (.lst (.cons (.cst .non) (.cons (.cst (.int 1)) (.cons (.tup (.cons (.cst (.int 2)) (.cons (.cst (.int 4)) (.nil)))) (.cons (.tup (.cons (.cst (.int 1)) (.cons (.cst (.int 0)) (.nil)))) (.cons (.tup (.cons (.neg (.e (.cst (.int 1)))) (.cons (.cst (.int 2)) (.nil)))) (.cons (.tup (.cons (.cst (.int 3)) (.cons (.cst (.int 2)) (.nil)))) (.cons (.cst (.str "1/2")) (.cons (.tup (.cons (.cst (.bl true)) (.cons (.cst (.int 1)) (.nil)))) (.nil)))))))))) (.nil))))) (.nil)⟩
def d__law_bad_chances : Dd := ⟨"_law_bad_chances", ["pot"], df__law_bad_chances⟩
def df__law_power : Df := ⟨2, [false, false], 4, false, .cons (.asg (.nm 2) (.tup (.cons (.cst (.int 1)) (.cons (.cst (.int 1)) (.nil))))) (.cons (.for_ (.nm 3) (.rng1 (.pek 1)) (.cons (.asg (.nm 2) (.cal 31 (.val (.var 2) (.val (.var 0) (.nil))))) (.nil))) (.cons (.retv 2) (.nil)))⟩
def d__law_power : Dd := ⟨"_law_power", ["one", "many"], df__law_power⟩
def df__law_all_rows : Df := ⟨1, [false], 4, false, .cons (.asg (.nm 1) (.lst (.cons (.tup (.nil)) (.nil)))) (.cons (.for_ (.nm 2) (.rng1 (.pek 0)) (.cons (.asg (.nm 1) (.bin .add (.e (.cmp1 (.bin .add (.pek 3) (.e (.tup (.cons (.cst (.int 0)) (.nil))))) (.nm 3) (.seq (.var 1)) (.nil) [3] 4)) (.e (.cmp1 (.bin .add (.pek 3) (.e (.tup (.cons (.cst (.int 1)) (.nil))))) (.nm 3) (.seq (.var 1)) (.nil) [3] 4)))) (.nil))) (.cons (.retv 1) (.nil)))⟩
def d__law_all_rows : Dd := ⟨"_law_all_rows", ["many"], df__law_all_rows⟩
def df__law_chance_drawn : Df := ⟨1, [true], 2, false, .cons (.asg (.nm 1) (.bl1 .int (.e (.bin .add (.e (.cst (.int 1))) (.e (.cal 24 (.ref 0 (.val (.cst (.int 12)) (.nil))))))))) (.cons (.ret (.cal 29 (.val (.bl1 .int (.e (.cal 24 (.ref 0 (.val (.bin .add (.pek 1) (.e (.cst (.int 1)))) (.nil)))))) (.val (.var 1) (.nil))))) (.nil))⟩
def d__law_chance_drawn : Dd := ⟨"_law_chance_drawn", ["pot"], df__law_chance_drawn⟩
def df__law_just : Df := ⟨2, [false, false], 8, false, .cons (.par [2, 3] (.cons (.lst (.cons (.tup (.cons (.cst (.int 1)) (.cons (.cst (.int 1)) (.nil)))) (.nil))) (.cons (.cal 32 (.val (.tup (.cons (.cst (.int 1)) (.cons (.cst (.int 1)) (.nil)))) (.val (.var 1) (.nil)))) (.nil)))) (.cons (.for_ (.nm 4) (.rng1 (.pek 0)) (.cons (.asg (.nm 5) (.bin .add (.e (.cmp1 (.cal 31 (.val (.var 7) (.val (.var 3) (.nil)))) (.nm 7) (.seq (.var 2)) (.nil) [7] 8)) (.e (.lst (.cons (.tup (.cons (.cst (.int 0)) (.cons (.cst (.int 1)) (.nil)))) (.nil)))))) (.cons (.for_ (.tp (.cons (.nm 6) (.cons (.nm 7) (.nil)))) (.enm (.var 2)) (.cons (.set 5 (.e (.bin .add (.pek 6) (.e (.cst (.int 1))))) (.cal 30 (.val (.idx (.pek 5) (.e (.bin .add (.pek 6) (.e (.cst (.int 1)))))) (.val (.cal 31 (.val (.var 7) (.val (.var 1) (.nil)))) (.nil))))) (.nil))) (.cons (.asg (.nm 2) (.var 5)) (.nil))))) (.cons (.retv 2) (.nil)))⟩
def d__law_just : Dd := ⟨"_law_just", ["many", "chance"], df__law_just⟩
def df__law_is_in : Df := ⟨4, [false, false, false, false], 6, false, .cons (.asg (.nm 4) (.cal 41 (.val (.var 0) (.val (.var 3) (.nil))))) (.cons (.asg (.nm 5) (.cal 31 (.val (.var 2) (.val (.tup (.cons (.cst (.int 1)) (.cons (.cst (.int 2)) (.nil)))) (.nil))))) (.cons (.ret (.andE (.e (.notE (.e (.cal 34 (.val (.cal 33 (.val (.slc (.pek 4) (.so (.pek 1)) (.no)) (.nil))) (.val (.var 5) (.nil))))))) (.notE (.e (.cal 34 (.val (.cal 33 (.val (.slc (.pek 4) (.no) (.so (.e (.bin .add (.pek 1) (.e (.cst (.int 1))))))) (.nil))) (.val (.var 5) (.nil)))))))) (.nil)))⟩
def d__law_is_in : Dd := ⟨"_law_is_in", ["many", "some", "error", "chance"], df__law_is_in⟩
def df__law_is_end_right : Df := ⟨6, [false, false, false, false, false, false], 11, false, .cons (.ite (.or_ (.and_ (.val (.e (.cmp .eq (.pek 3) (.e (.cst (.str "low")))))) (.val (.e (.cmp .eq (.pek 1) (.e (.cst (.int 0))))))) (.and_ (.val (.e (.cmp .eq (.pek 3) (.e (.cst (.str "high")))))) (.val (.e (.cmp .eq (.pek 1) (.pek 0)))))) (.cons (.ret (.cmp .eq (.pek 5) (.e (.ite (.val (.e (.cmp .eq (.pek 3) (.e (.cst (.str "low")))))) (.tup (.cons (.tup (.cons (.cst (.int 0)) (.cons (.cst (.int 1)) (.nil)))) (.cons (.tup (.cons (.cst (.int 0)) (.cons (.cst (.int 1)) (.nil)))) (.nil)))) (.tup (.cons (.tup (.cons (.cst (.int 1)) (.cons (.cst (.int 1)) (.nil)))) (.cons (.tup (.cons (.cst (.int 1)) (.cons (.cst (.int 1)) (.nil)))) (.nil)))))))) (.nil)) (.nil)) (.cons (.ite (.or_ (.not_ (.val (.e (.bl1 (.isi .tuple) (.pek 5))))) (.or_ (.val (.e (.cmp .ne (.e (.bl1 .len (.pek 5))) (.e (.cst (.int 2)))))) (.not_ (.val (.e (.bl1 .all (.e (.cmp1 (.cal 35 (.val (.var 10) (.nil))) (.nm 10) (.seq (.var 5)) (.nil) [10] 11)))))))) (.cons (.ret (.cst (.bl false))) (.nil)) (.nil)) (.cons (.ite (.or_ (.val (.e (.cmp .ne (.e (.cal 32 (.val (.idx (.pek 5) (.e (.cst (.int 1)))) (.val (.idx (.pek 5) (.e (.cst (.int 0)))) (.nil))))) (.e (.tup (.cons (.cst (.int 1)) (.cons (.var 4) (.nil)))))))) (.val (.e (.cmp .ne (.e (.bin .mod (.pek 4) (.e (.idx (.e (.idx (.pek 5) (.e (.cst (.int 0))))) (.e (.cst (.int 1))))))) (.e (.cst (.int 0))))))) (.cons (.ret (.cst (.bl false))) (.nil)) (.nil)) (.cons (.asg (.nm 6) (.cal 31 (.val (.var 2) (.val (.tup (.cons (.cst (.int 1)) (.cons (.cst (.int 2)) (.nil)))) (.nil))))) (.cons (.asg (.nm 7) (.lst (.nil))) (.cons (.for_ (.nm 8) (.seq (.var 5)) (.cons (.asg (.nm 9) (.cal 41 (.val (.var 0) (.val (.var 8) (.nil))))) (.cons (.app 7 (.cal 34 (.val (.cal 33 (.val (.ite (.val (.e (.cmp .eq (.pek 3) (.e (.cst (.str "low")))))) (.slc (.pek 9) (.so (.pek 1)) (.no)) (.slc (.pek 9) (.no) (.so (.e (.bin .add (.pek 1) (.e (.cst (.int 1)))))))) (.nil))) (.val (.var 6) (.nil))))) (.nil)))) (.cons (.ret (.cmp .eq (.pek 7) (.e (.ite (.val (.e (.cmp .eq (.pek 3) (.e (.cst (.str "low")))))) (.lst (.cons (.cst (.bl true)) (.cons (.cst (.bl false)) (.nil)))) (.lst (.cons (.cst (.bl false)) (.cons (.cst (.bl true)) (.nil)))))))) (.nil)))))))⟩
def d__law_is_end_right : Dd := ⟨"_law_is_end_right", ["many", "some", "error", "side", "fine", "told"], df__law_is_end_right⟩
def df__law_is_one_right : Df := ⟨5, [true, false, false, false, false], 14, false, .cons (.asg (.nm 5) (.cal 41 (.val (.var 1) (.val (.var 4) (.nil))))) (.cons (.ite (.val (.e (.cmp .ne (.e (.bl1 .repr (.e (.cal 14 (.val (.var 1) (.val (.var 2) (.val (.var 4) (.nil)))))))) (.e (.bl1 .repr (.e (.cal 33 (.val (.slc (.pek 5) (.so (.pek 2)) (.no)) (.nil))))))))) (.cons (.ret (.cst (.bl false))) (.nil)) (.nil)) (.cons (.ite (.val (.e (.cmp .ne (.e (.bl1 .repr (.e (.cal 15 (.val (.var 1) (.val (.var 2) (.val (.var 4) (.nil)))))))) (.e (.bl1 .repr (.e (.cal 33 (.val (.slc (.pek 5) (.no) (.so (.e (.bin .add (.pek 2) (.e (.cst (.int 1))))))) (.nil))))))))) (.cons (.ret (.cst (.bl false))) (.nil)) (.nil)) (.cons (.ite (.not_ (.val (.e (.cal 28 (.val (.cal 18 (.val (.var 1) (.val (.var 2) (.val (.var 3) (.val (.var 4) (.nil)))))) (.val (.cal 42 (.val (.var 1) (.val (.var 2) (.val (.var 3) (.val (.var 4) (.nil)))))) (.nil))))))) (.cons (.ret (.cst (.bl false))) (.nil)) (.nil)) (.cons (.asg (.nm 6) (.cal 25 (.ref 0 (.val (.lst (.cons (.cst (.int 1)) (.cons (.cst (.int 2)) (.cons (.cst (.int 10)) (.cons (.cst (.int 97)) (.cons (.cst (.int 1000)) (.nil))))))) (.nil))))) (.cons (.for_ (.nm 7) (.seq (.tup (.cons (.cst (.str "low")) (.cons (.cst (.str "high")) (.nil))))) (.cons (.xasg 8 (.cal 20 (.val (.var 1) (.val (.var 2) (.val (.var 3) (.val (.var 7) (.val (.var 6) (.nil)))))))) (.cons (.ite (.not_ (.val (.e (.cal 43 (.val (.var 1) (.val (.var 2) (.val (.var 3) (.val (.var 7) (.val (.var 6) (.val (.var 8) (.nil))))))))))) (.cons (.ret (.cst (.bl false))) (.nil)) (.nil)) (.nil)))) (.cons (.asg (.nm 9) (.bl1 .tuple (.e (.cmp1 (.var 12) (.nm 12) (.rng1 (.e (.bin .add (.pek 1) (.e (.cst (.int 1)))))) (.one (.val (.e (.cal 42 (.val (.var 1) (.val (.var 12) (.val (.var 3) (.val (.var 4) (.nil))))))))) [12] 14)))) (.cons (.ite (.val (.e (.cmp .ne (.e (.bl1 .repr (.e (.cal 22 (.val (.var 1) (.val (.var 3) (.val (.var 4) (.nil)))))))) (.e (.bl1 .repr (.pek 9)))))) (.cons (.ret (.cst (.bl false))) (.nil)) (.nil)) (.cons (.xasg 10 (.cal 21 (.val (.var 1) (.val (.var 3) (.val (.var 4) (.nil)))))) (.cons (.asg (.nm 11) (.cal 33 (.val (.cmp1 (.var 12) (.tp (.cons (.nm 13) (.cons (.nm 12) (.nil)))) (.enm (.var 5)) (.one (.val (.e (.cmp .notin (.pek 13) (.pek 9))))) [13, 12] 14) (.nil)))) (.cons (.ret (.andE (.e (.cmp .eq (.e (.bl1 .repr (.pek 10))) (.e (.bl1 .repr (.pek 11))))) (.notE (.e (.cal 34 (.val (.var 3) (.val (.var 10) (.nil)))))))) (.nil)))))))))))⟩
def d__law_is_one_right : Dd := ⟨"_law_is_one_right", ["pot", "many", "some", "error", "chance"], df__law_is_one_right⟩
def df__law_are_odd_refused : Df := ⟨1, [true], 3, true, .cons (.asg (.nm 1) (.cal 25 (.ref 0 (.val (.lst (.cons (.cst .non) (.cons (.cst (.bl true)) (.cons (.cst (.int 0)) (.cons (.cst (.int 61)) (.cons (.cst (.str "1")) (.nil))))))) (.nil))))) (.cons (.asg (.nm 2) (.lst (.cons (.lam 48 lam48.caps) (.nil)))) (.cons (.app 2 (.lam 49 lam49.caps)) (.cons (.app 2 (.lam 50 lam50.caps)) (.cons (.app 2 (.lam 51 lam51.caps)) (.cons (.ite (.not_ (.val (.e (.caly 36 (.val (.var 2) (.val (.lam 64 lam64.caps) (.val (.var 1) (.nil)))) [48, 49, 50, 51, 52, 53, 54, 55, 56, 57, 58, 59, 60, 61, 62, 63, 64, 65, 66, 67, 68])))) (.cons (.ret (.cst (.bl false))) (.nil)) (.nil)) (.cons (.asg (.nm 1) (.cal 25 (.ref 0 (.val (.lst (.cons (.cst .non) (.cons (.cst (.bl true)) (.cons (.cst (.int 0)) (.cons (.bin .add (.e (.bin .pow (.e (.cst (.int 10))) (.e (.cst (.int 6))))) (.e (.cst (.int 1)))) (.cons (.cst (.str "1")) (.nil))))))) (.nil))))) (.cons (.asg (.nm 2) (.lst (.cons (.lam 52 lam52.caps) (.nil)))) (.cons (.ite (.not_ (.val (.e (.caly 36 (.val (.var 2) (.val (.lam 65 lam65.caps) (.val (.var 1) (.nil)))) [48, 49, 50, 51, 52, 53, 54, 55, 56, 57, 58, 59, 60, 61, 62, 63, 64, 65, 66, 67, 68])))) (.cons (.ret (.cst (.bl false))) (.nil)) (.nil)) (.cons (.asg (.nm 1) (.cal 25 (.ref 0 (.val (.lst (.cons (.cst .non) (.cons (.cst (.bl true)) (.cons (.neg (.e (.cst (.int 1)))) (.cons (.cst (.int 4)) (.cons (.cst (.str "1")) (.nil))))))) (.nil))))) (.cons (.asg (.nm 2) (.lst (.cons (.lam 53 lam53.caps) (.nil)))) (.cons (.app 2 (.lam 54 lam54.caps)) (.cons (.app 2 (.lam 55 lam55.caps)) (.cons (.ite (.not_ (.val (.e (.caly 36 (.val (.var 2) (.val (.lam 66 lam66.caps) (.val (.var 1) (.nil)))) [48, 49, 50, 51, 52, 53, 54, 55, 56, 57, 58, 59, 60, 61, 62, 63, 64, 65, 66, 67, 68])))) (.cons (.ret (.cst (.bl false))) (.nil)) (.nil)) (.cons (.asg (.nm 1) (.cal 25 (.ref 0 (.val (.lst (.cons (.cal 37 (.ref 0 (.nil))) (.cons (.tup (.cons (.cst (.int 0)) (.cons (.cst (.int 1)) (.nil)))) (.cons (.tup (.cons (.cst (.int 1)) (.cons (.cst (.int 1)) (.nil)))) (.nil))))) (.nil))))) (.cons (.asg (.nm 2) (.lst (.cons (.lam 56 lam56.caps) (.nil)))) (.cons (.app 2 (.lam 57 lam57.caps)) (.cons (.app 2 (.lam 58 lam58.caps)) (.cons (.ite (.not_ (.val (.e (.caly 36 (.val (.var 2) (.val (.lam 67 lam67.caps) (.val (.var 1) (.nil)))) [48, 49, 50, 51, 52, 53, 54, 55, 56, 57, 58, 59, 60, 61, 62, 63, 64, 65, 66, 67, 68])))) (.cons (.ret (.cst (.bl false))) (.nil)) (.nil)) (.cons (.asg (.nm 1) (.cal 37 (.ref 0 (.nil)))) (.cons (.asg (.nm 2) (.lst (.cons (.lam 59 lam59.caps) (.nil)))) (.cons (.app 2 (.lam 60 lam60.caps)) (.cons (.app 2 (.lam 61 lam61.caps)) (.cons (.ite (.not_ (.val (.e (.caly 36 (.val (.var 2) (.val (.lam 68 lam68.caps) (.val (.var 1) (.nil)))) [48, 49, 50, 51, 52, 53, 54, 55, 56, 57, 58, 59, 60, 61, 62, 63, 64, 65, 66, 67, 68])))) (.cons (.ret (.cst (.bl false))) (.nil)) (.nil)) (.cons (.asg (.nm 1) (.cal 25 (.ref 0 (.val (.lst (.cons (.cst .non) (.cons (.cst (.int 0)) (.cons (.cst (.str "")) (.cons (.cst (.str "Low")) (.cons (.tup (.cons (.cst (.str "low")) (.nil))) (.nil))))))) (.nil))))) (.cons (.asg (.nm 2) (.lst (.cons (.lam 62 lam62.caps) (.nil)))) (.cons (.ret (.caly 36 (.val (.var 2) (.val (.lam 63 lam63.caps) (.val (.var 1) (.nil)))) [48, 49, 50, 51, 52, 53, 54, 55, 56, 57, 58, 59, 60, 61, 62, 63, 64, 65, 66, 67, 68])) (.nil)))))))))))))))))))))))))))⟩
def d__law_are_odd_refused : Dd := ⟨"_law_are_odd_refused", ["pot"], df__law_are_odd_refused⟩
def df__law_right : Df := ⟨1, [true], 5, false, .cons (.for_ (.nm 1) (.rng1 (.e (.cst (.int 4)))) (.cons (.asg (.nm 2) (.bl1 .int (.e (.bin .add (.e (.cst (.int 1))) (.e (.cal 24 (.ref 0 (.val (.cst (.int 9)) (.nil))))))))) (.cons (.par [3, 4] (.cons (.bl1 .int (.e (.cal 24 (.ref 0 (.val (.bin .add (.pek 2) (.e (.cst (.int 1)))) (.nil)))))) (.cons (.cal 25 (.ref 0 (.val (.lst (.cons (.tup (.cons (.cst (.int 1)) (.cons (.cst (.int 10)) (.nil)))) (.cons (.tup (.cons (.cst (.int 1)) (.cons (.cst (.int 20)) (.nil)))) (.cons (.tup (.cons (.cst (.int 1)) (.cons (.cst (.int 2)) (.nil)))) (.cons (.tup (.cons (.cst (.int 9)) (.cons (.cst (.int 10)) (.nil)))) (.cons (.tup (.cons (.cst (.int 1)) (.cons (.cst (.int 3)) (.nil)))) (.nil))))))) (.nil)))) (.nil)))) (.cons (.ite (.not_ (.val (.e (.cal 44 (.ref 0 (.val (.var 2) (.val (.var 3) (.val (.var 4) (.val (.cal 40 (.ref 0 (.nil))) (.nil)))))))))) (.cons (.ret (.cst (.bl false))) (.nil)) (.nil)) (.cons (.ite (.not_ (.val (.e (.cal 45 (.ref 0 (.nil)))))) (.cons (.ret (.cst (.bl false))) (.nil)) (.nil)) (.nil)))))) (.cons (.ret (.cst (.bl true))) (.nil))⟩
def d__law_right : Dd := ⟨"_law_right", ["pot"], df__law_right⟩
def df_law : Df := ⟨1, [false], 8, false, .cons (.ite (.or_ (.val (.e (.cmp .ne (.e (.cal 20 (.val (.cst (.int 2)) (.val (.cst (.int 2)) (.val (.tup (.cons (.cst (.int 1)) (.cons (.cst (.int 10)) (.nil)))) (.val (.cst (.str "low")) (.val (.cst (.int 100)) (.nil)))))))) (.e (.tup (.cons (.tup (.cons (.cst (.int 11)) (.cons (.cst (.int 50)) (.nil)))) (.cons (.tup (.cons (.cst (.int 23)) (.cons (.cst (.int 100)) (.nil)))) (.nil)))))))) (.val (.e (.cmp .ne (.e (.cal 21 (.val (.cst (.int 2)) (.val (.tup (.cons (.cst (.int 1)) (.cons (.cst (.int 10)) (.nil)))) (.val (.tup (.cons (.cst (.int 1)) (.cons (.cst (.int 5)) (.nil)))) (.nil)))))) (.e (.tup (.cons (.cst (.int 1)) (.cons (.cst (.int 25)) (.nil))))))))) (.cons (.ret (.cst (.bl false))) (.nil)) (.nil)) (.cons (.asg (.nm 1) (.cmp1 (.var 6) (.nm 6) (.seq (.cal 39 (.val (.cst (.int 3)) (.nil)))) (.one (.val (.e (.cmp .ge (.e (.bl1 .sum (.pek 6))) (.e (.cst (.int 2))))))) [6] 8)) (.cons (.asg (.nm 2) (.cal 33 (.val (.cmp1 (.cal 31 (.val (.cal 38 (.val (.tup (.cons (.cst (.int 1)) (.cons (.cst (.int 3)) (.nil)))) (.val (.bl1 .sum (.pek 6)) (.nil)))) (.val (.cal 38 (.val (.tup (.cons (.cst (.int 2)) (.cons (.cst (.int 3)) (.nil)))) (.val (.bin .sub (.e (.cst (.int 3))) (.e (.bl1 .sum (.pek 6)))) (.nil)))) (.nil)))) (.nm 6) (.seq (.var 1)) (.nil) [6] 8) (.nil)))) (.cons (.ite (.or_ (.val (.e (.cmp .ne (.e (.cal 14 (.val (.cst (.int 3)) (.val (.cst (.int 2)) (.val (.tup (.cons (.cst (.int 1)) (.cons (.cst (.int 3)) (.nil)))) (.nil)))))) (.pek 2)))) (.val (.e (.cmp .ne (.e (.cal 15 (.val (.cst (.int 60)) (.val (.cst (.int 60)) (.val (.tup (.cons (.cst (.int 1)) (.cons (.cst (.int 7)) (.nil)))) (.nil)))))) (.e (.tup (.cons (.cst (.int 1)) (.cons (.cst (.int 1)) (.nil))))))))) (.cons (.ret (.cst (.bl false))) (.nil)) (.nil)) (.cons (.asg (.tp (.cons (.nm 3) (.cons (.nm 4) (.nil)))) (.cal 20 (.val (.cst (.int 14)) (.val (.cst (.int 7)) (.val (.tup (.cons (.cst (.int 1)) (.cons (.cst (.int 20)) (.nil)))) (.val (.cst (.str "high")) (.val (.bin .pow (.e (.cst (.int 10))) (.e (.cst (.int 3)))) (.nil)))))))) (.cons (.ite (.or_ (.not_ (.val (.e (.cal 42 (.val (.cst (.int 14)) (.val (.cst (.int 7)) (.val (.tup (.cons (.cst (.int 1)) (.cons (.cst (.int 20)) (.nil)))) (.val (.var 3) (.nil))))))))) (.val (.e (.cal 42 (.val (.cst (.int 14)) (.val (.cst (.int 7)) (.val (.tup (.cons (.cst (.int 1)) (.cons (.cst (.int 20)) (.nil)))) (.val (.var 4) (.nil))))))))) (.cons (.ret (.cst (.bl false))) (.nil)) (.nil)) (.cons (.ite (.or_ (.val (.e (.cmp .isnot (.e (.cal 18 (.val (.cst (.int 60)) (.val (.cst (.int 30)) (.val (.tup (.cons (.cst (.int 1)) (.cons (.cst (.int 20)) (.nil)))) (.val (.tup (.cons (.cst (.int 1)) (.cons (.cst (.int 2)) (.nil)))) (.nil))))))) (.e (.cst (.bl true)))))) (.val (.e (.cmp .isnot (.e (.cal 18 (.val (.cst (.int 60)) (.val (.cst (.int 60)) (.val (.tup (.cons (.cst (.int 1)) (.cons (.cst (.int 20)) (.nil)))) (.val (.tup (.cons (.cst (.int 1)) (.cons (.cst (.int 2)) (.nil)))) (.nil))))))) (.e (.cst (.bl false))))))) (.cons (.ret (.cst (.bl false))) (.nil)) (.nil)) (.cons (.xasg 5 (.cal 20 (.val (.cst (.int 24)) (.val (.cst (.int 7)) (.val (.tup (.cons (.cst (.int 1)) (.cons (.cst (.int 20)) (.nil)))) (.val (.cst (.str "low")) (.val (.cst (.int 100)) (.nil)))))))) (.cons (.ite (.not_ (.val (.e (.cal 43 (.val (.cst (.int 24)) (.val (.cst (.int 7)) (.val (.tup (.cons (.cst (.int 1)) (.cons (.cst (.int 20)) (.nil)))) (.val (.cst (.str "low")) (.val (.cst (.int 100)) (.val (.var 5) (.nil))))))))))) (.cons (.ret (.cst (.bl false))) (.nil)) (.nil)) (.cons (.ret (.bl1 .all (.e (.cmp1 (.calT 46 (.cal 23 (.val (.var 0) (.val (.var 7) (.nil))))) (.nm 7) (.seq (.cal 26 (.val (.var 0) (.val (.cst (.int 3)) (.nil))))) (.nil) [7] 8)))) (.nil))))))))))⟩
def d_law : Dd := ⟨"law", ["script"], df_law⟩
def dl48 : Df := ⟨1, [false], 1, false, .cons (.xret (.cal 14 (.val (.var 0) (.val (.cst .non) (.val (.cst .non) (.nil)))))) .nil⟩
def dl49 : Df := ⟨1, [false], 1, false, .cons (.xret (.cal 18 (.val (.var 0) (.val (.cst .non) (.val (.cst .non) (.val (.cst .non) (.nil))))))) .nil⟩
def dl50 : Df := ⟨1, [false], 1, false, .cons (.xret (.cal 21 (.val (.var 0) (.val (.cst .non) (.val (.cst .non) (.nil)))))) .nil⟩
def dl51 : Df := ⟨1, [false], 1, false, .cons (.xret (.cal 22 (.val (.var 0) (.val (.cst .non) (.val (.cst .non) (.nil)))))) .nil⟩
def dl52 : Df := ⟨1, [false], 1, false, .cons (.xret (.cal 20 (.val (.cst (.int 3)) (.val (.cst (.int 1)) (.val (.tup (.cons (.cst (.int 1)) (.cons (.cst (.int 2)) (.nil)))) (.val (.cst (.str "low")) (.val (.var 0) (.nil)))))))) .nil⟩
def dl53 : Df := ⟨1, [false], 1, false, .cons (.xret (.cal 15 (.val (.cst (.int 3)) (.val (.var 0) (.val (.cst .non) (.nil)))))) .nil⟩
def dl54 : Df := ⟨1, [false], 1, false, .cons (.xret (.cal 18 (.val (.cst (.int 3)) (.val (.var 0) (.val (.cst .non) (.val (.cst .non) (.nil))))))) .nil⟩
def dl55 : Df := ⟨1, [false], 1, false, .cons (.xret (.cal 20 (.val (.cst (.int 3)) (.val (.var 0) (.val (.cst .non) (.val (.cst .non) (.val (.cst .non) (.nil)))))))) .nil⟩
def dl56 : Df := ⟨1, [false], 1, false, .cons (.xret (.cal 18 (.val (.cst (.int 3)) (.val (.cst (.int 1)) (.val (.var 0) (.val (.cst .non) (.nil))))))) .nil⟩
def dl57 : Df := ⟨1, [false], 1, false, .cons (.xret (.cal 20 (.val (.cst (.int 3)) (.val (.cst (.int 1)) (.val (.var 0) (.val (.cst .non) (.val (.cst .non) (.nil)))))))) .nil⟩
def dl58 : Df := ⟨1, [false], 1, false, .cons (.xret (.cal 21 (.val (.cst (.int 3)) (.val (.var 0) (.val (.cst .non) (.nil)))))) .nil⟩
def dl59 : Df := ⟨1, [false], 1, false, .cons (.xret (.cal 14 (.val (.cst (.int 3)) (.val (.cst (.int 1)) (.val (.var 0) (.nil)))))) .nil⟩
def dl60 : Df := ⟨1, [false], 1, false, .cons (.xret (.cal 18 (.val (.cst (.int 3)) (.val (.cst (.int 1)) (.val (.tup (.cons (.cst (.int 1)) (.cons (.cst (.int 2)) (.nil)))) (.val (.var 0) (.nil))))))) .nil⟩
def dl61 : Df := ⟨1, [false], 1, false, .cons (.xret (.cal 22 (.val (.cst (.int 3)) (.val (.tup (.cons (.cst (.int 1)) (.cons (.cst (.int 2)) (.nil)))) (.val (.var 0) (.nil)))))) .nil⟩
def dl62 : Df := ⟨1, [false], 1, false, .cons (.xret (.cal 20 (.val (.cst (.int 3)) (.val (.cst (.int 1)) (.val (.tup (.cons (.cst (.int 1)) (.cons (.cst (.int 2)) (.nil)))) (.val (.var 0) (.val (.cst .non) (.nil)))))))) .nil⟩
def dl63 : Df := ⟨1, [false], 1, false, .cons (.ret (.isx (.pek 0) "BadName" excs)) .nil⟩
def dl64 : Df := ⟨1, [false], 1, false, .cons (.ret (.isx (.pek 0) "BadInt" excs)) .nil⟩
def dl65 : Df := ⟨1, [false], 1, false, .cons (.ret (.isx (.pek 0) "BadInt" excs)) .nil⟩
def dl66 : Df := ⟨1, [false], 1, false, .cons (.ret (.isx (.pek 0) "BadInt" excs)) .nil⟩
def dl67 : Df := ⟨1, [false], 1, false, .cons (.ret (.isx (.pek 0) "BadChance" excs)) .nil⟩
def dl68 : Df := ⟨1, [false], 1, false, .cons (.ret (.isx (.pek 0) "BadChance" excs)) .nil⟩
def Pr : Prg where
  defs := [d_is_int, d_told_fraction, d_is_exact, d_is_fraction, d_is_price, d_is_chance, d_look_at_chance, d_times, d_is_less, d_told_ways, d_told_parts, d_told_at_least, d_told_no_more, d_look_at_seen, d_chance_at_least, d_chance_no_more, d_look_at_error, d_told_is_in, d_is_in_stretch, d_told_steps, d_end_of_stretch, d_left_out, d_seen_in, d__law_pot, d__law_take, d__law_of, d__law_cells, d__law_heard, d__law_is_bool, d__law_frac, d__law_plus, d__law_times, d__law_less, d__law_sum, d__law_is_less, d__law_is_exact, d__law_are_refused, d__law_bad_chances, d__law_power, d__law_all_rows, d__law_chance_drawn, d__law_just, d__law_is_in, d__law_is_end_right, d__law_is_one_right, d__law_are_odd_refused, d__law_right, d_law]
  lams := [(lam48, [], dl48), (lam49, [], dl49), (lam50, [], dl50), (lam51, [], dl51), (lam52, [], dl52), (lam53, [], dl53), (lam54, [], dl54), (lam55, [], dl55), (lam56, [], dl56), (lam57, [], dl57), (lam58, [], dl58), (lam59, [], dl59), (lam60, [], dl60), (lam61, [], dl61), (lam62, [], dl62), (lam63, ["miss"], dl63), (lam64, ["miss"], dl64), (lam65, ["miss"], dl65), (lam66, ["miss"], dl66), (lam67, ["miss"], dl67), (lam68, ["miss"], dl68)]
  blts := ["super", "isinstance", "range", "list", "bool", "int", "abs", "all", "len", "tuple", "sum", "str", "enumerate", "min", "max", "any", "repr"]
  csts := [c_NOUGHT, c_ONE, c_HALF, c_MOST, c_MOST_SEEN, c_MOST_FINE, c_LOW, c_HIGH]
  root := "StockError"
  excs := excs
def r_is_int : Row := ⟨d_is_int, topS 6, ["value", "least", "most"]⟩
def r_told_fraction : Row := ⟨d_told_fraction, topS 12, ["top", "bottom", "one", "other", "shared"]⟩
def r_is_exact : Row := ⟨d_is_exact, topS 13, ["value", "part"]⟩
def r_is_fraction : Row := ⟨d_is_fraction, topS 14, ["value"]⟩
def r_is_price : Row := ⟨d_is_price, topS 15, ["value"]⟩
def r_is_chance : Row := ⟨d_is_chance, topS 16, ["value"]⟩
def r_look_at_chance : Row := ⟨d_look_at_chance, topS 17, ["value"]⟩
def r_times : Row := ⟨d_times, topS 18, ["one", "other"]⟩
def r_is_less : Row := ⟨d_is_less, topS 19, ["one", "other"]⟩
def r_told_ways : Row := ⟨d_told_ways, topS 25, ["many", "some", "found", "one"]⟩
def r_told_parts : Row := ⟨d_told_parts, topS 26, ["many", "chance", "top", "bottom", "ups", "downs", "whole", "lap", "some"]⟩
def r_told_at_least : Row := ⟨d_told_at_least, topS 27, ["many", "some", "chance", "parts", "whole"]⟩
def r_told_no_more : Row := ⟨d_told_no_more, topS 28, ["many", "some", "chance", "parts", "whole"]⟩
def r_look_at_seen : Row := ⟨d_look_at_seen, topS 29, ["many", "some"]⟩
def r_chance_at_least : Row := ⟨d_chance_at_least, topS 30, ["many", "some", "chance"]⟩
def r_chance_no_more : Row := ⟨d_chance_no_more, topS 31, ["many", "some", "chance"]⟩
def r_look_at_error : Row := ⟨d_look_at_error, topS 32, ["error"]⟩
def r_told_is_in : Row := ⟨d_told_is_in, topS 33, ["parts", "whole", "some", "error", "half"]⟩
def r_is_in_stretch : Row := ⟨d_is_in_stretch, topS 34, ["many", "some", "error", "chance", "parts", "whole"]⟩
def r_told_steps : Row := ⟨d_told_steps, topS 35, ["many", "some", "half", "side", "fine", "low", "high", "middle", "chance", "is_before"]⟩
def r_end_of_stretch : Row := ⟨d_end_of_stretch, topS 36, ["many", "some", "error", "side", "fine", "step"]⟩
def r_left_out : Row := ⟨d_left_out, topS 37, ["many", "error", "chance", "parts", "whole", "out", "some", "part"]⟩
def r_seen_in : Row := ⟨d_seen_in, topS 38, ["many", "error", "chance", "parts", "whole", "some"]⟩
def r__law_pot : Row := ⟨d__law_pot, topS 40, ["script", "place", "cell", "own", "small"]⟩
def r__law_take : Row := ⟨d__law_take, topS 41, ["pot", "upto", "digit", "prime", "mixture"]⟩
def r__law_of : Row := ⟨d__law_of, topS 42, ["pot", "some"]⟩
def r__law_cells : Row := ⟨d__law_cells, topS 43, ["script", "most"]⟩
def r__law_heard : Row := ⟨d__law_heard, topS 44, ["call", "caught", "gave", "error"]⟩
def r__law_is_bool : Row := ⟨d__law_is_bool, topS 45, ["told", "due"]⟩
def r__law_frac : Row := ⟨d__law_frac, topS 46, ["top", "bottom", "one", "other", "sign"]⟩
def r__law_plus : Row := ⟨d__law_plus, topS 47, ["one", "other"]⟩
def r__law_times : Row := ⟨d__law_times, topS 48, ["one", "other"]⟩
def r__law_less : Row := ⟨d__law_less, topS 49, ["one", "other"]⟩
def r__law_sum : Row := ⟨d__law_sum, topS 50, ["some", "found", "one"]⟩
def r__law_is_less : Row := ⟨d__law_is_less, topS 51, ["one", "other"]⟩
def r__law_is_exact : Row := ⟨d__law_is_exact, topS 52, ["value", "part"]⟩
def r__law_are_refused : Row := ⟨d__law_are_refused, topS 53, ["looks", "is_kind", "value", "look", "caught"]⟩
def r__law_bad_chances : Row := ⟨d__law_bad_chances, topS 54, ["pot"]⟩
def r__law_power : Row := ⟨d__law_power, topS 55, ["one", "many", "found", "lap"]⟩
def r__law_all_rows : Row := ⟨d__law_all_rows, topS 56, ["many", "found", "lap", "row"]⟩
def r__law_chance_drawn : Row := ⟨d__law_chance_drawn, topS 57, ["pot", "bottom"]⟩
def r__law_just : Row := ⟨d__law_just, topS 58, ["many", "chance", "found", "none", "lap", "longer", "at", "one"]⟩
def r__law_is_in : Row := ⟨d__law_is_in, topS 59, ["many", "some", "error", "chance", "just", "half"]⟩
def r__law_is_end_right : Row := ⟨d__law_is_end_right, topS 60, ["many", "some", "error", "side", "fine", "told", "half", "tails", "chance", "just", "one"]⟩
def r__law_is_one_right : Row := ⟨d__law_is_one_right, topS 61, ["pot", "many", "some", "error", "chance", "just", "fine", "side", "told", "fits", "out", "due", "one", "at"]⟩
def r__law_are_odd_refused : Row := ⟨d__law_are_odd_refused, topS 62, ["pot", "bad", "looks"]⟩
def r__law_right : Row := ⟨d__law_right, topS 63, ["pot", "lap", "many", "some", "error"]⟩
def r_law : Row := ⟨d_law, topS 64, ["script", "rows", "due", "low", "high", "told", "row", "at"]⟩
def rows : List Row := [r_is_int, r_told_fraction, r_is_exact, r_is_fraction, r_is_price, r_is_chance, r_look_at_chance, r_times, r_is_less, r_told_ways, r_told_parts, r_told_at_least, r_told_no_more, r_look_at_seen, r_chance_at_least, r_chance_no_more, r_look_at_error, r_told_is_in, r_is_in_stretch, r_told_steps, r_end_of_stretch, r_left_out, r_seen_in, r__law_pot, r__law_take, r__law_of, r__law_cells, r__law_heard, r__law_is_bool, r__law_frac, r__law_plus, r__law_times, r__law_less, r__law_sum, r__law_is_less, r__law_is_exact, r__law_are_refused, r__law_bad_chances, r__law_power, r__law_all_rows, r__law_chance_drawn, r__law_just, r__law_is_in, r__law_is_end_right, r__law_is_one_right, r__law_are_odd_refused, r__law_right, r_law]
def iniS : Stmt := stS (topS 1) 0
def ini : IniD := ⟨"StockError.__init__", defArgs iniS, defBody iniS, defScope iniS⟩
theorem hroot : Pr.root ∈ Pr.excs := List.mem_cons_self
end Dn.K69
end

section
set_option linter.all false
set_option autoImplicit false
set_option maxRecDepth 100000
set_option Elab.async false
set_option maxHeartbeats 4000000
/-! K69B0: the rules of k69. Written by gen.py. -/
namespace Dn.K69
open PySem PySem.Spec PyProof.Rows L2 Dn

theorem b_is_int : BodyOk Pr d_is_int ["value", "least", "most"] "is_int" (defScope (topS 6)) (defBody (topS 6)) := fun P w k0 k mg base f cd A0 outer s H E L cf n A tk hL mk =>
  ss_cons (s_ret (e_and (p_e (q_isi A .int 1 5 rfl rfl (p_pek (q_v 0)))) (e_and (p_e (e_not (p_e (q_isi A .bool 1 4 rfl rfl (p_pek (q_v 0)))))) (e_one (e_chn .le .le A.G.un (p_pek (q_v 1)) (p_pek (q_v 0)) (p_pek (q_v 2))))))) (ss_nil)
theorem ro_is_int : RowOk Pr r_is_int := ⟨by decide +kernel, ⟨rfl, rfl, rfl, by decide +kernel, rfl, by decide +kernel, by decide +kernel⟩, rfl, rfl, rfl, by decide, fun kV doc pm an cdv ct us ws hl => match us, ws, hl with | [], [_, _, _], _ => rfl | [_], [_, _], _ => rfl | [_, _], [_], _ => rfl | [_, _, _], [], _ => rfl, b_is_int⟩
theorem b_is_price : BodyOk Pr d_is_price ["value"] "is_price" (defScope (topS 15)) (defBody (topS 15)) := fun P w k0 k mg base f cd A0 outer s H E L cf n A tk hL mk =>
  ss_cons (s_ret (e_and (p_e (q_cal A 3 d_is_fraction rfl (as_val (e_var (q_v 0)) (as_nil)))) (e_one (e_cmp .ge A.G.un (p_e (e_idx A.u1 (p_pek (q_v 0)) (p_e (e_int)))) (p_e (e_int)))))) (ss_nil)
theorem ro_is_price : RowOk Pr r_is_price := ⟨by decide +kernel, ⟨rfl, rfl, rfl, by decide +kernel, rfl, by decide +kernel, by decide +kernel⟩, rfl, rfl, rfl, by decide, fun kV doc pm an cdv ct us ws hl => match us, ws, hl with | [], [_], _ => rfl | [_], [], _ => rfl, b_is_price⟩
theorem b_times : BodyOk Pr d_times ["one", "other"] "times" (defScope (topS 18)) (defBody (topS 18)) := fun P w k0 k mg base f cd A0 outer s H E L cf n A tk hL mk =>
  ss_cons (s_ret (q_cal A 1 d_told_fraction rfl (as_val (e_bin .mul (p_e (e_idx A.u1 (p_pek (q_v 0)) (p_e (e_int)))) (p_e (e_idx A.u1 (p_pek (q_v 1)) (p_e (e_int))))) (as_val (e_bin .mul (p_e (e_idx A.u1 (p_pek (q_v 0)) (p_e (e_int)))) (p_e (e_idx A.u1 (p_pek (q_v 1)) (p_e (e_int))))) (as_nil))))) (ss_nil)
theorem ro_times : RowOk Pr r_times := ⟨by decide +kernel, ⟨rfl, rfl, rfl, by decide +kernel, rfl, by decide +kernel, by decide +kernel⟩, rfl, rfl, rfl, by decide, fun kV doc pm an cdv ct us ws hl => match us, ws, hl with | [], [_, _], _ => rfl | [_], [_], _ => rfl | [_, _], [], _ => rfl, b_times⟩
theorem b_told_at_least : BodyOk Pr d_told_at_least ["many", "some", "chance", "parts", "whole"] "told_at_least" (defScope (topS 27)) (defBody (topS 27)) := fun P w k0 k mg base f cd A0 outer s H E L cf n A tk hL mk =>
  ss_cons (s_tup (g_tp A.G (gs_cons (g_nm (q_g A 3)) (gs_cons (g_nm (q_g A 4)) (gs_nil)))) (q_cal A 10 d_told_parts rfl (as_val (e_var (q_v 0)) (as_val (e_var (q_v 2)) (as_nil))))) (ss_cons (s_ret (q_cal A 1 d_told_fraction rfl (as_val (e_blB (c_sum A.G.calm) (p_e (e_slc (p_pek (q_v 3)) (o_so (p_pek (q_v 1))) (o_no))) (hm := A.blt 10 rfl)) (as_val (e_var (q_v 4)) (as_nil))))) (ss_nil))
theorem ro_told_at_least : RowOk Pr r_told_at_least := ⟨by decide +kernel, ⟨rfl, rfl, rfl, by decide +kernel, rfl, by decide +kernel, by decide +kernel⟩, rfl, rfl, rfl, by decide, fun kV doc pm an cdv ct us ws hl => match us, ws, hl with | [], [_, _, _], _ => rfl | [_], [_, _], _ => rfl | [_, _], [_], _ => rfl | [_, _, _], [], _ => rfl, b_told_at_least⟩
theorem b_chance_at_least : BodyOk Pr d_chance_at_least ["many", "some", "chance"] "chance_at_least" (defScope (topS 30)) (defBody (topS 30)) := fun P w k0 k mg base f cd A0 outer s H E L cf n A tk hL mk =>
  ss_cons (s_xexp (q_calX A tk 13 d_look_at_seen rfl (as_val (e_var (q_v 0)) (as_val (e_var (q_v 1)) (as_nil))))) (ss_cons (s_xexp (q_calX A tk 6 d_look_at_chance rfl (as_val (e_var (q_v 2)) (as_nil)))) (ss_cons (s_ret (q_cal A 11 d_told_at_least rfl (as_val (e_var (q_v 0)) (as_val (e_var (q_v 1)) (as_val (e_var (q_v 2)) (as_nil)))))) (ss_nil)))
theorem ro_chance_at_least : RowOk Pr r_chance_at_least := ⟨by decide +kernel, ⟨rfl, rfl, rfl, by decide +kernel, rfl, by decide +kernel, by decide +kernel⟩, rfl, rfl, rfl, by decide, fun kV doc pm an cdv ct us ws hl => match us, ws, hl with | [], [_, _, _], _ => rfl | [_], [_, _], _ => rfl | [_, _], [_], _ => rfl | [_, _, _], [], _ => rfl, b_chance_at_least⟩
theorem b_is_in_stretch : BodyOk Pr d_is_in_stretch ["many", "some", "error", "chance", "parts", "whole"] "is_in_stretch" (defScope (topS 34)) (defBody (topS 34)) := fun P w k0 k mg base f cd A0 outer s H E L cf n A tk hL mk =>
  ss_cons (s_xexp (q_calX A tk 13 d_look_at_seen rfl (as_val (e_var (q_v 0)) (as_val (e_var (q_v 1)) (as_nil))))) (ss_cons (s_xexp (q_calX A tk 16 d_look_at_error rfl (as_val (e_var (q_v 2)) (as_nil)))) (ss_cons (s_xexp (q_calX A tk 6 d_look_at_chance rfl (as_val (e_var (q_v 3)) (as_nil)))) (ss_cons (s_tup (g_tp A.G (gs_cons (g_nm (q_g A 4)) (gs_cons (g_nm (q_g A 5)) (gs_nil)))) (q_cal A 10 d_told_parts rfl (as_val (e_var (q_v 0)) (as_val (e_var (q_v 3)) (as_nil))))) (ss_cons (s_ret (q_cal A 17 d_told_is_in rfl (as_val (e_var (q_v 4)) (as_val (e_var (q_v 5)) (as_val (e_var (q_v 1)) (as_val (e_var (q_v 2)) (as_nil))))))) (ss_nil)))))
theorem ro_is_in_stretch : RowOk Pr r_is_in_stretch := ⟨by decide +kernel, ⟨rfl, rfl, rfl, by decide +kernel, rfl, by decide +kernel, by decide +kernel⟩, rfl, rfl, rfl, by decide, fun kV doc pm an cdv ct us ws hl => match us, ws, hl with | [], [_, _, _, _], _ => rfl | [_], [_, _, _], _ => rfl | [_, _], [_, _], _ => rfl | [_, _, _], [_], _ => rfl | [_, _, _, _], [], _ => rfl, b_is_in_stretch⟩
theorem b_seen_in : BodyOk Pr d_seen_in ["many", "error", "chance", "parts", "whole", "some"] "seen_in" (defScope (topS 38)) (defBody (topS 38)) := fun P w k0 k mg base f cd A0 outer s H E L cf n A tk hL mk =>
  ss_cons (s_ite (t_not (t_val (p_e (q_cal A 0 d_is_int rfl (as_val (e_var (q_v 0)) (as_val (e_int) (as_val (q_cst A 4 c_MOST_SEEN rfl) (as_nil)))))) (fun _ => rfl))) (ss_cons (q_rais A tk 2 rfl (e_var (q_v 0))) (ss_nil)) (ss_nil)) (ss_cons (s_xexp (q_calX A tk 16 d_look_at_error rfl (as_val (e_var (q_v 1)) (as_nil)))) (ss_cons (s_xexp (q_calX A tk 6 d_look_at_chance rfl (as_val (e_var (q_v 2)) (as_nil)))) (ss_cons (s_tup (g_tp A.G (gs_cons (g_nm (q_g A 3)) (gs_cons (g_nm (q_g A 4)) (gs_nil)))) (q_cal A 10 d_told_parts rfl (as_val (e_var (q_v 0)) (as_val (e_var (q_v 2)) (as_nil))))) (ss_cons (s_ret (e_blT c_tuple (p_e (q_lc A [("some", 5)] 6 (i_rng1 rfl (A.blt 2 rfl) (p_e (e_bin .add (p_pek (q_v 0)) (p_e (e_int))))) (fun A => g_nm (q_g A 5)) (fun A => ts_one (t_val (p_e (q_cal A 17 d_told_is_in rfl (as_val (e_var (q_v 3)) (as_val (e_var (q_v 4)) (as_val (e_var (q_v 5)) (as_val (e_var (q_v 1)) (as_nil))))))) (fun _ => rfl))) (fun A => e_var (q_v 5)))) (hm := A.blt 9 rfl))) (ss_nil)))))
theorem ro_seen_in : RowOk Pr r_seen_in := ⟨by decide +kernel, ⟨rfl, rfl, rfl, by decide +kernel, rfl, by decide +kernel, by decide +kernel⟩, rfl, rfl, rfl, by decide, fun kV doc pm an cdv ct us ws hl => match us, ws, hl with | [], [_, _, _], _ => rfl | [_], [_, _], _ => rfl | [_, _], [_], _ => rfl | [_, _, _], [], _ => rfl, b_seen_in⟩
theorem b__law_take : BodyOk Pr d__law_take ["pot", "upto", "digit", "prime", "mixture"] "_law_take" (defScope (topS 41)) (defBody (topS 41)) := fun P w k0 k mg base f cd A0 outer s H E L cf n A tk hL mk =>
  ss_cons (s_ite (t_cmp .gt A.G.un (p_e (e_idx A.u1 (p_pek (q_v 0)) (p_e (e_int)))) (p_e (e_int))) (ss_cons (s_asg A.G (i := 2) (e_bin .mod (p_e (e_blT c_int (p_e (e_idx A.u1 (p_pek (q_v 0)) (p_e (e_int)))) (hm := A.blt 5 rfl))) (p_pek (q_v 1)))) (ss_cons (s_set A.G (q_v 0) (p_e (e_int)) (e_bin .fdiv (p_e (e_idx A.u1 (p_pek (q_v 0)) (p_e (e_int)))) (p_pek (q_v 1)))) (ss_cons (s_retv (q_v 2)) (ss_nil)))) (ss_nil)) (ss_cons (s_set A.G (q_v 0) (p_e (e_int)) (e_bin .add (p_e (e_idx A.u1 (p_pek (q_v 0)) (p_e (e_int)))) (p_e (e_int)))) (ss_cons (s_asg A.G (i := 3) (e_idx A.u1 (p_e (e_lst (es_cons (e_int) (es_cons (e_int) (es_cons (e_int) (es_cons (e_int) (es_cons (e_int) (es_nil)))))))) (p_e (e_bin .mod (p_e (e_blT c_int (p_e (e_idx A.u1 (p_pek (q_v 0)) (p_e (e_int)))) (hm := A.blt 5 rfl))) (p_e (e_int)))))) (ss_cons (s_asg A.G (i := 4) (e_bin .mod (p_e (e_blT c_int (p_e (e_bin .pow (p_e (e_blT c_int (p_e (e_bin .add (p_e (e_bin .add (p_e (e_idx A.u1 (p_pek (q_v 0)) (p_e (e_int)))) (p_e (e_bin .mul (p_e (e_bin .mul (p_e (e_int)) (p_e (e_idx A.u1 (p_pek (q_v 0)) (p_e (e_int)))))) (p_e (e_idx A.u1 (p_pek (q_v 0)) (p_e (e_int)))))))) (p_e (e_int)))) (hm := A.blt 5 rfl))) (p_e (e_int)))) (hm := A.blt 5 rfl))) (p_pek (q_v 3)))) (ss_cons (s_asg A.G (i := 4) (e_bin .mod (p_e (e_blT c_int (p_e (e_bin .mul (p_pek (q_v 4)) (p_e (e_bin .add (p_e (e_bin .mod (p_e (e_blT c_int (p_pek (q_v 4)) (hm := A.blt 5 rfl))) (p_e (e_int)))) (p_e (e_bin .mul (p_e (e_int)) (p_e (e_idx A.u1 (p_pek (q_v 0)) (p_e (e_int)))))))))) (hm := A.blt 5 rfl))) (p_e (e_int)))) (ss_cons (s_ret (e_bin .mod (p_e (e_blT c_int (p_e (e_bin .fdiv (p_pek (q_v 4)) (p_e (e_int)))) (hm := A.blt 5 rfl))) (p_pek (q_v 1)))) (ss_nil))))))
theorem ro__law_take : RowOk Pr r__law_take := ⟨by decide +kernel, ⟨rfl, rfl, rfl, by decide +kernel, rfl, by decide +kernel, by decide +kernel⟩, rfl, rfl, rfl, by decide, fun kV doc pm an cdv ct us ws hl => match us, ws, hl with | [], [_, _], _ => rfl | [_], [_], _ => rfl | [_, _], [], _ => rfl, b__law_take⟩
theorem b__law_sum : BodyOk Pr d__law_sum ["some", "found", "one"] "_law_sum" (defScope (topS 50)) (defBody (topS 50)) := fun P w k0 k mg base f cd A0 outer s H E L cf n A tk hL mk =>
  ss_cons (s_asg A.G (i := 1) (e_tup (es_cons (e_int) (es_cons (e_int) (es_nil))))) (ss_cons (s_for A.G (i_seq (e_var (q_v 0))) (g_nm (q_g A 2)) (ss_cons (s_asg A.G (i := 1) (q_cal A 30 d__law_plus rfl (as_val (e_var (q_v 1)) (as_val (e_var (q_v 2)) (as_nil))))) (ss_nil))) (ss_cons (s_retv (q_v 1)) (ss_nil)))
theorem ro__law_sum : RowOk Pr r__law_sum := ⟨by decide +kernel, ⟨rfl, rfl, rfl, by decide +kernel, rfl, by decide +kernel, by decide +kernel⟩, rfl, rfl, rfl, by decide, fun kV doc pm an cdv ct us ws hl => match us, ws, hl with | [], [_], _ => rfl | [_], [], _ => rfl, b__law_sum⟩
theorem b__law_bad_chances : BodyOk Pr d__law_bad_chances ["pot"] "_law_bad_chances" (defScope (topS 54)) (defBody (topS 54)) := fun P w k0 k mg base f cd A0 outer s H E L cf n A tk hL mk =>
  ss_cons (s_ret (q_cal A 25 d__law_of rfl (as_ref (q_v 0) (as_val (e_lst (es_cons (e_non) (es_cons (e_int) (es_cons (e_tup (es_cons (e_int) (es_cons (e_int) (es_nil)))) (es_cons (e_tup (es_cons (e_int) (es_cons (e_int) (es_nil)))) (es_cons (e_tup (es_cons (e_neg (p_e (e_int))) (es_cons (e_int) (es_nil)))) (es_cons (e_tup (es_cons (e_int) (es_cons (e_int) (es_nil)))) (es_cons (e_str) (es_cons (e_tup (es_cons (e_bl) (es_cons (e_int) (es_nil)))) (es_nil)))))))))) (as_nil))))) (ss_nil)
theorem ro__law_bad_chances : RowOk Pr r__law_bad_chances := ⟨by decide +kernel, ⟨rfl, rfl, rfl, by decide +kernel, rfl, by decide +kernel, by decide +kernel⟩, rfl, rfl, rfl, by decide, fun kV doc pm an cdv ct us ws hl => match us, ws, hl with | [], [_], _ => rfl | [_], [], _ => rfl, b__law_bad_chances⟩
theorem b__law_chance_drawn : BodyOk Pr d__law_chance_drawn ["pot", "bottom"] "_law_chance_drawn" (defScope (topS 57)) (defBody (topS 57)) := fun P w k0 k mg base f cd A0 outer s H E L cf n A tk hL mk =>
  ss_cons (s_asg A.G (i := 1) (e_blT c_int (p_e (e_bin .add (p_e (e_int)) (p_e (q_cal A 24 d__law_take rfl (as_ref (q_v 0) (as_val (e_int) (as_nil))))))) (hm := A.blt 5 rfl))) (ss_cons (s_ret (q_cal A 29 d__law_frac rfl (as_val (e_blT c_int (p_e (q_cal A 24 d__law_take rfl (as_ref (q_v 0) (as_val (e_bin .add (p_pek (q_v 1)) (p_e (e_int))) (as_nil))))) (hm := A.blt 5 rfl)) (as_val (e_var (q_v 1)) (as_nil))))) (ss_nil))
theorem ro__law_chance_drawn : RowOk Pr r__law_chance_drawn := ⟨by decide +kernel, ⟨rfl, rfl, rfl, by decide +kernel, rfl, by decide +kernel, by decide +kernel⟩, rfl, rfl, rfl, by decide, fun kV doc pm an cdv ct us ws hl => match us, ws, hl with | [], [_], _ => rfl | [_], [], _ => rfl, b__law_chance_drawn⟩
theorem b__law_is_end_right : BodyOk Pr d__law_is_end_right ["many", "some", "error", "side", "fine", "told", "half", "tails", "chance", "just", "one"] "_law_is_end_right" (defScope (topS 60)) (defBody (topS 60)) := fun P w k0 k mg base f cd A0 outer s H E L cf n A tk hL mk =>
  ss_cons (s_ite (t_bop (w_or (t_bop (w_and (t_cmp .eq A.G.un (p_pek (q_v 3)) (p_e (e_str))) (w_one (t_cmp .eq A.G.un (p_pek (q_v 1)) (p_e (e_int)))))) (w_one (t_bop (w_and (t_cmp .eq A.G.un (p_pek (q_v 3)) (p_e (e_str))) (w_one (t_cmp .eq A.G.un (p_pek (q_v 1)) (p_pek (q_v 0))))))))) (ss_cons (s_ret (e_cmp .eq A.G.un (p_pek (q_v 5)) (p_e (e_ite (t_cmp .eq A.G.un (p_pek (q_v 3)) (p_e (e_str))) (e_tup (es_cons (e_tup (es_cons (e_int) (es_cons (e_int) (es_nil)))) (es_cons (e_tup (es_cons (e_int) (es_cons (e_int) (es_nil)))) (es_nil)))) (e_tup (es_cons (e_tup (es_cons (e_int) (es_cons (e_int) (es_nil)))) (es_cons (e_tup (es_cons (e_int) (es_cons (e_int) (es_nil)))) (es_nil)))))))) (ss_nil)) (ss_nil)) (ss_cons (s_ite (t_bop (w_or (t_not (t_val (p_e (q_isi A .tuple 1 9 rfl rfl (p_pek (q_v 5)))) (fun _ => rfl))) (w_or (t_cmp .ne A.G.un (p_e (e_blB c_len (p_pek (q_v 5)) (hm := A.blt 8 rfl))) (p_e (e_int))) (w_one (t_not (t_val (p_e (e_blB (c_all A.G.calm) (p_e (q_lc A [("one", 10)] 11 (i_seq (e_var (q_v 5))) (fun A => g_nm (q_g A 10)) (fun A => ts_nil) (fun A => q_cal A 35 d__law_is_exact rfl (as_val (e_var (q_v 10)) (as_nil))))) (hm := A.blt 7 rfl))) (fun _ => rfl))))))) (ss_cons (s_ret (e_bl)) (ss_nil)) (ss_nil)) (ss_cons (s_ite (t_bop (w_or (t_cmp .ne A.G.un (p_e (q_cal A 32 d__law_less rfl (as_val (e_idx A.u1 (p_pek (q_v 5)) (p_e (e_int))) (as_val (e_idx A.u1 (p_pek (q_v 5)) (p_e (e_int))) (as_nil))))) (p_e (e_tup (es_cons (e_int) (es_cons (e_var (q_v 4)) (es_nil)))))) (w_one (t_cmp .ne A.G.un (p_e (e_bin .mod (p_pek (q_v 4)) (p_e (e_idx A.u1 (p_e (e_idx A.u1 (p_pek (q_v 5)) (p_e (e_int)))) (p_e (e_int)))))) (p_e (e_int)))))) (ss_cons (s_ret (e_bl)) (ss_nil)) (ss_nil)) (ss_cons (s_asg A.G (i := 6) (q_cal A 31 d__law_times rfl (as_val (e_var (q_v 2)) (as_val (e_tup (es_cons (e_int) (es_cons (e_int) (es_nil)))) (as_nil))))) (ss_cons (s_asg A.G (i := 7) (e_lst (es_nil))) (ss_cons (s_for A.G (i_seq (e_var (q_v 5))) (g_nm (q_g A 8)) (ss_cons (s_asg A.G (i := 9) (q_cal A 41 d__law_just rfl (as_val (e_var (q_v 0)) (as_val (e_var (q_v 8)) (as_nil))))) (ss_cons (s_app (q_v 7) (q_cal A 34 d__law_is_less rfl (as_val (q_cal A 33 d__law_sum rfl (as_val (e_ite (t_cmp .eq A.G.un (p_pek (q_v 3)) (p_e (e_str))) (e_slc (p_pek (q_v 9)) (o_so (p_pek (q_v 1))) (o_no)) (e_slc (p_pek (q_v 9)) (o_no) (o_so (p_e (e_bin .add (p_pek (q_v 1)) (p_e (e_int))))))) (as_nil))) (as_val (e_var (q_v 6)) (as_nil))))) (ss_nil)))) (ss_cons (s_ret (e_cmp .eq A.G.un (p_pek (q_v 7)) (p_e (e_ite (t_cmp .eq A.G.un (p_pek (q_v 3)) (p_e (e_str))) (e_lst (es_cons (e_bl) (es_cons (e_bl) (es_nil)))) (e_lst (es_cons (e_bl) (es_cons (e_bl) (es_nil)))))))) (ss_nil)))))))
theorem ro__law_is_end_right : RowOk Pr r__law_is_end_right := ⟨by decide +kernel, ⟨rfl, rfl, rfl, by decide +kernel, rfl, by decide +kernel, by decide +kernel⟩, rfl, rfl, rfl, by decide, fun kV doc pm an cdv ct us ws hl => match us, ws, hl with | [], [_, _, _, _, _, _], _ => rfl | [_], [_, _, _, _, _], _ => rfl | [_, _], [_, _, _, _], _ => rfl | [_, _, _], [_, _, _], _ => rfl | [_, _, _, _], [_, _], _ => rfl | [_, _, _, _, _], [_], _ => rfl | [_, _, _, _, _, _], [], _ => rfl, b__law_is_end_right⟩
theorem lk48 : LamK Pr lam48 [] dl48 := ⟨⟨rfl, rfl, rfl, by decide +kernel, by decide +kernel, by decide +kernel, by decide +kernel, by decide +kernel⟩, rfl, rfl, rfl, fun q cl pm cv ctv us hl => match us, hl with | [], _ => rfl, lam_xret rfl fun P w k0 k mg base f c' cl A0 outer s H E L cf n A tk => q_calX A tk 14 d_chance_at_least rfl (as_val (e_var (q_v 0)) (as_val (e_non) (as_val (e_non) (as_nil))))⟩
theorem lk49 : LamK Pr lam49 [] dl49 := ⟨⟨rfl, rfl, rfl, by decide +kernel, by decide +kernel, by decide +kernel, by decide +kernel, by decide +kernel⟩, rfl, rfl, rfl, fun q cl pm cv ctv us hl => match us, hl with | [], _ => rfl, lam_xret rfl fun P w k0 k mg base f c' cl A0 outer s H E L cf n A tk => q_calX A tk 18 d_is_in_stretch rfl (as_val (e_var (q_v 0)) (as_val (e_non) (as_val (e_non) (as_val (e_non) (as_nil)))))⟩
theorem lk50 : LamK Pr lam50 [] dl50 := ⟨⟨rfl, rfl, rfl, by decide +kernel, by decide +kernel, by decide +kernel, by decide +kernel, by decide +kernel⟩, rfl, rfl, rfl, fun q cl pm cv ctv us hl => match us, hl with | [], _ => rfl, lam_xret rfl fun P w k0 k mg base f c' cl A0 outer s H E L cf n A tk => q_calX A tk 21 d_left_out rfl (as_val (e_var (q_v 0)) (as_val (e_non) (as_val (e_non) (as_nil))))⟩
theorem lk52 : LamK Pr lam52 [] dl52 := ⟨⟨rfl, rfl, rfl, by decide +kernel, by decide +kernel, by decide +kernel, by decide +kernel, by decide +kernel⟩, rfl, rfl, rfl, fun q cl pm cv ctv us hl => match us, hl with | [], _ => rfl, lam_xret rfl fun P w k0 k mg base f c' cl A0 outer s H E L cf n A tk => q_calX A tk 20 d_end_of_stretch rfl (as_val (e_int) (as_val (e_int) (as_val (e_tup (es_cons (e_int) (es_cons (e_int) (es_nil)))) (as_val (e_str) (as_val (e_var (q_v 0)) (as_nil))))))⟩
theorem lk55 : LamK Pr lam55 [] dl55 := ⟨⟨rfl, rfl, rfl, by decide +kernel, by decide +kernel, by decide +kernel, by decide +kernel, by decide +kernel⟩, rfl, rfl, rfl, fun q cl pm cv ctv us hl => match us, hl with | [], _ => rfl, lam_xret rfl fun P w k0 k mg base f c' cl A0 outer s H E L cf n A tk => q_calX A tk 20 d_end_of_stretch rfl (as_val (e_int) (as_val (e_var (q_v 0)) (as_val (e_non) (as_val (e_non) (as_val (e_non) (as_nil))))))⟩
theorem lk58 : LamK Pr lam58 [] dl58 := ⟨⟨rfl, rfl, rfl, by decide +kernel, by decide +kernel, by decide +kernel, by decide +kernel, by decide +kernel⟩, rfl, rfl, rfl, fun q cl pm cv ctv us hl => match us, hl with | [], _ => rfl, lam_xret rfl fun P w k0 k mg base f c' cl A0 outer s H E L cf n A tk => q_calX A tk 21 d_left_out rfl (as_val (e_int) (as_val (e_var (q_v 0)) (as_val (e_non) (as_nil))))⟩
theorem lk61 : LamK Pr lam61 [] dl61 := ⟨⟨rfl, rfl, rfl, by decide +kernel, by decide +kernel, by decide +kernel, by decide +kernel, by decide +kernel⟩, rfl, rfl, rfl, fun q cl pm cv ctv us hl => match us, hl with | [], _ => rfl, lam_xret rfl fun P w k0 k mg base f c' cl A0 outer s H E L cf n A tk => q_calX A tk 22 d_seen_in rfl (as_val (e_int) (as_val (e_tup (es_cons (e_int) (es_cons (e_int) (es_nil)))) (as_val (e_var (q_v 0)) (as_nil))))⟩
theorem lk63 : LamK Pr lam63 ["miss"] dl63 := ⟨⟨rfl, rfl, rfl, by decide +kernel, by decide +kernel, by decide +kernel, by decide +kernel, by decide +kernel⟩, rfl, rfl, rfl, fun q cl pm cv ctv us hl => match us, hl with | [_], _ => rfl, lam_ret rfl fun P w k0 k mg base f c' cl A0 outer s H E L cf n A tk => q_isx A 3 rfl 1 rfl (p_pek (q_v 0))⟩
theorem lk66 : LamK Pr lam66 ["miss"] dl66 := ⟨⟨rfl, rfl, rfl, by decide +kernel, by decide +kernel, by decide +kernel, by decide +kernel, by decide +kernel⟩, rfl, rfl, rfl, fun q cl pm cv ctv us hl => match us, hl with | [_], _ => rfl, lam_ret rfl fun P w k0 k mg base f c' cl A0 outer s H E L cf n A tk => q_isx A 2 rfl 1 rfl (p_pek (q_v 0))⟩
end Dn.K69
end

section
set_option linter.all false
set_option autoImplicit false
set_option maxRecDepth 100000
set_option Elab.async false
set_option maxHeartbeats 4000000
/-! K69B1: the rules of k69. Written by gen.py. -/
namespace Dn.K69
open PySem PySem.Spec PyProof.Rows L2 Dn

theorem b_told_fraction : BodyOk Pr d_told_fraction ["top", "bottom", "one", "other", "shared"] "told_fraction" (defScope (topS 12)) (defBody (topS 12)) := fun P w k0 k mg base f cd A0 outer s H E L cf n A tk hL mk =>
  ss_cons (s_par2 (i := 2) (j := 3) A.G (ef_cons (e_blB c_abs (p_pek (q_v 0)) (hm := A.blt 6 rfl)) (ef_cons (e_blB c_abs (p_pek (q_v 1)) (hm := A.blt 6 rfl)) (ef_nil)))) (ss_cons (s_whl A.G (t_cmp .ne A.G.un (p_pek (q_v 3)) (p_e (e_int))) (ss_cons (s_par2 (i := 2) (j := 3) A.G (ef_cons (e_var (q_v 3)) (ef_cons (e_bin .mod (p_pek (q_v 2)) (p_pek (q_v 3))) (ef_nil)))) (ss_nil))) (ss_cons (s_asg A.G (i := 4) (e_ite (t_cmp .lt A.G.un (p_pek (q_v 1)) (p_e (e_int))) (e_neg (p_pek (q_v 2))) (e_var (q_v 2)))) (ss_cons (s_ret (e_tup (es_cons (e_bin .fdiv (p_pek (q_v 0)) (p_pek (q_v 4))) (es_cons (e_bin .fdiv (p_pek (q_v 1)) (p_pek (q_v 4))) (es_nil))))) (ss_nil))))
theorem ro_told_fraction : RowOk Pr r_told_fraction := ⟨by decide +kernel, ⟨rfl, rfl, rfl, by decide +kernel, rfl, by decide +kernel, by decide +kernel⟩, rfl, rfl, rfl, by decide, fun kV doc pm an cdv ct us ws hl => match us, ws, hl with | [], [_, _], _ => rfl | [_], [_], _ => rfl | [_, _], [], _ => rfl, b_told_fraction⟩
theorem b_look_at_chance : BodyOk Pr d_look_at_chance ["value"] "look_at_chance" (defScope (topS 17)) (defBody (topS 17)) := fun P w k0 k mg base f cd A0 outer s H E L cf n A tk hL mk =>
  ss_cons (s_ite (t_not (t_val (p_e (q_cal A 5 d_is_chance rfl (as_val (e_var (q_v 0)) (as_nil)))) (fun _ => rfl))) (ss_cons (q_rais A tk 1 rfl (e_var (q_v 0))) (ss_nil)) (ss_nil)) (ss_nil)
theorem ro_look_at_chance : RowOk Pr r_look_at_chance := ⟨by decide +kernel, ⟨rfl, rfl, rfl, by decide +kernel, rfl, by decide +kernel, by decide +kernel⟩, rfl, rfl, rfl, by decide, fun kV doc pm an cdv ct us ws hl => match us, ws, hl with | [], [_], _ => rfl | [_], [], _ => rfl, b_look_at_chance⟩
theorem b_told_parts : BodyOk Pr d_told_parts ["many", "chance", "top", "bottom", "ups", "downs", "whole", "lap", "some"] "told_parts" (defScope (topS 26)) (defBody (topS 26)) := fun P w k0 k mg base f cd A0 outer s H E L cf n A tk hL mk =>
  ss_cons (s_tup (g_tp A.G (gs_cons (g_nm (q_g A 2)) (gs_cons (g_nm (q_g A 3)) (gs_nil)))) (e_var (q_v 1))) (ss_cons (s_parT A.G (gn_cons (q_g A 4) (gn_cons (q_g A 5) (gn_cons (q_g A 6) (gn_nil)))) (ef_cons (e_lst (es_cons (e_int) (es_nil))) (ef_cons (e_lst (es_cons (e_int) (es_nil))) (ef_cons (e_int) (ef_nil))))) (ss_cons (s_for A.G (i_rng1 rfl (A.blt 2 rfl) (p_pek (q_v 0))) (g_nm (q_g A 7)) (ss_cons (s_app (q_v 4) (e_bin .mul (p_e (e_idx A.u1 (p_pek (q_v 4)) (p_e (e_neg (p_e (e_int)))))) (p_pek (q_v 2)))) (ss_cons (s_app (q_v 5) (e_bin .mul (p_e (e_idx A.u1 (p_pek (q_v 5)) (p_e (e_neg (p_e (e_int)))))) (p_e (e_bin .sub (p_pek (q_v 3)) (p_pek (q_v 2)))))) (ss_cons (s_aug A.G (i := 6) ip_mul (p_pek (q_v 3))) (ss_nil))))) (ss_cons (s_ret (e_tup (es_cons (q_lc A [("some", 8)] 9 (i_rng1 rfl (A.blt 2 rfl) (p_e (e_bin .add (p_pek (q_v 0)) (p_e (e_int))))) (fun A => g_nm (q_g A 8)) (fun A => ts_nil) (fun A => e_bin .mul (p_e (e_bin .mul (p_e (q_cal A 9 d_told_ways rfl (as_val (e_var (q_v 0)) (as_val (e_var (q_v 8)) (as_nil))))) (p_e (e_idx A.u1 (p_pek (q_v 4)) (p_pek (q_v 8)))))) (p_e (e_idx A.u1 (p_pek (q_v 5)) (p_e (e_bin .sub (p_pek (q_v 0)) (p_pek (q_v 8)))))))) (es_cons (e_var (q_v 6)) (es_nil))))) (ss_nil))))
theorem ro_told_parts : RowOk Pr r_told_parts := ⟨by decide +kernel, ⟨rfl, rfl, rfl, by decide +kernel, rfl, by decide +kernel, by decide +kernel⟩, rfl, rfl, rfl, by decide, fun kV doc pm an cdv ct us ws hl => match us, ws, hl with | [], [_, _], _ => rfl | [_], [_], _ => rfl | [_, _], [], _ => rfl, b_told_parts⟩
theorem b_told_is_in : BodyOk Pr d_told_is_in ["parts", "whole", "some", "error", "half"] "told_is_in" (defScope (topS 33)) (defBody (topS 33)) := fun P w k0 k mg base f cd A0 outer s H E L cf n A tk hL mk =>
  ss_cons (s_asg A.G (i := 4) (e_bin .mul (p_e (e_idx A.u1 (p_pek (q_v 3)) (p_e (e_int)))) (p_pek (q_v 1)))) (ss_cons (s_ite (t_cmp .lt A.G.un (p_e (e_bin .mul (p_e (e_bin .mul (p_e (e_blB (c_sum A.G.calm) (p_e (e_slc (p_pek (q_v 0)) (o_so (p_pek (q_v 2))) (o_no))) (hm := A.blt 10 rfl))) (p_e (e_int)))) (p_e (e_idx A.u1 (p_pek (q_v 3)) (p_e (e_int)))))) (p_pek (q_v 4))) (ss_cons (s_ret (e_bl)) (ss_nil)) (ss_nil)) (ss_cons (s_ret (e_cmp .ge A.G.un (p_e (e_bin .mul (p_e (e_bin .mul (p_e (e_blB (c_sum A.G.calm) (p_e (e_slc (p_pek (q_v 0)) (o_no) (o_so (p_e (e_bin .add (p_pek (q_v 2)) (p_e (e_int))))))) (hm := A.blt 10 rfl))) (p_e (e_int)))) (p_e (e_idx A.u1 (p_pek (q_v 3)) (p_e (e_int)))))) (p_pek (q_v 4)))) (ss_nil)))
theorem ro_told_is_in : RowOk Pr r_told_is_in := ⟨by decide +kernel, ⟨rfl, rfl, rfl, by decide +kernel, rfl, by decide +kernel, by decide +kernel⟩, rfl, rfl, rfl, by decide, fun kV doc pm an cdv ct us ws hl => match us, ws, hl with | [], [_, _, _, _], _ => rfl | [_], [_, _, _], _ => rfl | [_, _], [_, _], _ => rfl | [_, _, _], [_], _ => rfl | [_, _, _, _], [], _ => rfl, b_told_is_in⟩
theorem b_left_out : BodyOk Pr d_left_out ["many", "error", "chance", "parts", "whole", "out", "some", "part"] "left_out" (defScope (topS 37)) (defBody (topS 37)) := fun P w k0 k mg base f cd A0 outer s H E L cf n A tk hL mk =>
  ss_cons (s_ite (t_not (t_val (p_e (q_cal A 0 d_is_int rfl (as_val (e_var (q_v 0)) (as_val (e_int) (as_val (q_cst A 4 c_MOST_SEEN rfl) (as_nil)))))) (fun _ => rfl))) (ss_cons (q_rais A tk 2 rfl (e_var (q_v 0))) (ss_nil)) (ss_nil)) (ss_cons (s_xexp (q_calX A tk 16 d_look_at_error rfl (as_val (e_var (q_v 1)) (as_nil)))) (ss_cons (s_xexp (q_calX A tk 6 d_look_at_chance rfl (as_val (e_var (q_v 2)) (as_nil)))) (ss_cons (s_tup (g_tp A.G (gs_cons (g_nm (q_g A 3)) (gs_cons (g_nm (q_g A 4)) (gs_nil)))) (q_cal A 10 d_told_parts rfl (as_val (e_var (q_v 0)) (as_val (e_var (q_v 2)) (as_nil))))) (ss_cons (q_slc A [("some", 6), ("part", 7)] 8 5 (i_enm rfl (A.blt 12 rfl) (e_var (q_v 3))) (fun A => g_tp A.G (gs_cons (g_nm (q_g A 6)) (gs_cons (g_nm (q_g A 7)) (gs_nil)))) (fun A => ts_one (t_not (t_val (p_e (q_cal A 17 d_told_is_in rfl (as_val (e_var (q_v 3)) (as_val (e_var (q_v 4)) (as_val (e_var (q_v 6)) (as_val (e_var (q_v 1)) (as_nil))))))) (fun _ => rfl)))) (fun A => e_var (q_v 7))) (ss_cons (s_ret (q_cal A 1 d_told_fraction rfl (as_val (e_blB (c_sum A.G.calm) (p_pek (q_v 5)) (hm := A.blt 10 rfl)) (as_val (e_var (q_v 4)) (as_nil))))) (ss_nil))))))
theorem ro_left_out : RowOk Pr r_left_out := ⟨by decide +kernel, ⟨rfl, rfl, rfl, by decide +kernel, rfl, by decide +kernel, by decide +kernel⟩, rfl, rfl, rfl, by decide, fun kV doc pm an cdv ct us ws hl => match us, ws, hl with | [], [_, _, _], _ => rfl | [_], [_, _], _ => rfl | [_, _], [_], _ => rfl | [_, _, _], [], _ => rfl, b_left_out⟩
theorem b__law_of : BodyOk Pr d__law_of ["pot", "some"] "_law_of" (defScope (topS 42)) (defBody (topS 42)) := fun P w k0 k mg base f cd A0 outer s H E L cf n A tk hL mk =>
  ss_cons (s_ret (e_idx A.u1 (p_pek (q_v 1)) (p_e (q_cal A 24 d__law_take rfl (as_ref (q_v 0) (as_val (e_blB c_len (p_pek (q_v 1)) (hm := A.blt 8 rfl)) (as_nil))))))) (ss_nil)
theorem ro__law_of : RowOk Pr r__law_of := ⟨by decide +kernel, ⟨rfl, rfl, rfl, by decide +kernel, rfl, by decide +kernel, by decide +kernel⟩, rfl, rfl, rfl, by decide, fun kV doc pm an cdv ct us ws hl => match us, ws, hl with | [], [_, _], _ => rfl | [_], [_], _ => rfl | [_, _], [], _ => rfl, b__law_of⟩
theorem b__law_heard : BodyOk Pr d__law_heard ["call", "caught", "gave", "error"] "_law_heard" (defScope (topS 44)) (defBody (topS 44)) := fun P w k0 k mg base f cd A0 outer s H E L cf n A tk hL mk =>
  ss_cons (s_parT A.G (gn_cons (q_g A 1) (gn_cons (q_g A 2) (gn_nil))) (ef_cons (e_non) (ef_cons (e_non) (ef_nil)))) (ss_cons (q_try A (i := 2) (ec := 3) (j := 1) hroot (hb := fun A tk => s_xasg A.G (i := 2) (q_xclv0 A tk (i := 0)))) (ss_cons (s_ret (e_tup (es_cons (e_var (q_v 1)) (es_cons (e_var (q_v 2)) (es_nil))))) (ss_nil)))
theorem ro__law_heard : RowOk Pr r__law_heard := ⟨by decide +kernel, ⟨rfl, rfl, rfl, by decide +kernel, rfl, by decide +kernel, by decide +kernel⟩, rfl, rfl, rfl, by decide, fun kV doc pm an cdv ct us ws hl => match us, ws, hl with | [], [_], _ => rfl | [_], [], _ => rfl, b__law_heard⟩
theorem b__law_times : BodyOk Pr d__law_times ["one", "other"] "_law_times" (defScope (topS 48)) (defBody (topS 48)) := fun P w k0 k mg base f cd A0 outer s H E L cf n A tk hL mk =>
  ss_cons (s_ret (q_cal A 29 d__law_frac rfl (as_val (e_bin .mul (p_e (e_idx A.u1 (p_pek (q_v 0)) (p_e (e_int)))) (p_e (e_idx A.u1 (p_pek (q_v 1)) (p_e (e_int))))) (as_val (e_bin .mul (p_e (e_idx A.u1 (p_pek (q_v 0)) (p_e (e_int)))) (p_e (e_idx A.u1 (p_pek (q_v 1)) (p_e (e_int))))) (as_nil))))) (ss_nil)
theorem ro__law_times : RowOk Pr r__law_times := ⟨by decide +kernel, ⟨rfl, rfl, rfl, by decide +kernel, rfl, by decide +kernel, by decide +kernel⟩, rfl, rfl, rfl, by decide, fun kV doc pm an cdv ct us ws hl => match us, ws, hl with | [], [_, _], _ => rfl | [_], [_], _ => rfl | [_, _], [], _ => rfl, b__law_times⟩
theorem b__law_less : BodyOk Pr d__law_less ["one", "other"] "_law_less" (defScope (topS 49)) (defBody (topS 49)) := fun P w k0 k mg base f cd A0 outer s H E L cf n A tk hL mk =>
  ss_cons (s_ret (q_cal A 29 d__law_frac rfl (as_val (e_bin .sub (p_e (e_bin .mul (p_e (e_idx A.u1 (p_pek (q_v 0)) (p_e (e_int)))) (p_e (e_idx A.u1 (p_pek (q_v 1)) (p_e (e_int)))))) (p_e (e_bin .mul (p_e (e_idx A.u1 (p_pek (q_v 1)) (p_e (e_int)))) (p_e (e_idx A.u1 (p_pek (q_v 0)) (p_e (e_int))))))) (as_val (e_bin .mul (p_e (e_idx A.u1 (p_pek (q_v 0)) (p_e (e_int)))) (p_e (e_idx A.u1 (p_pek (q_v 1)) (p_e (e_int))))) (as_nil))))) (ss_nil)
theorem ro__law_less : RowOk Pr r__law_less := ⟨by decide +kernel, ⟨rfl, rfl, rfl, by decide +kernel, rfl, by decide +kernel, by decide +kernel⟩, rfl, rfl, rfl, by decide, fun kV doc pm an cdv ct us ws hl => match us, ws, hl with | [], [_, _], _ => rfl | [_], [_], _ => rfl | [_, _], [], _ => rfl, b__law_less⟩
theorem b__law_power : BodyOk Pr d__law_power ["one", "many", "found", "lap"] "_law_power" (defScope (topS 55)) (defBody (topS 55)) := fun P w k0 k mg base f cd A0 outer s H E L cf n A tk hL mk =>
  ss_cons (s_asg A.G (i := 2) (e_tup (es_cons (e_int) (es_cons (e_int) (es_nil))))) (ss_cons (s_for A.G (i_rng1 rfl (A.blt 2 rfl) (p_pek (q_v 1))) (g_nm (q_g A 3)) (ss_cons (s_asg A.G (i := 2) (q_cal A 31 d__law_times rfl (as_val (e_var (q_v 2)) (as_val (e_var (q_v 0)) (as_nil))))) (ss_nil))) (ss_cons (s_retv (q_v 2)) (ss_nil)))
theorem ro__law_power : RowOk Pr r__law_power := ⟨by decide +kernel, ⟨rfl, rfl, rfl, by decide +kernel, rfl, by decide +kernel, by decide +kernel⟩, rfl, rfl, rfl, by decide, fun kV doc pm an cdv ct us ws hl => match us, ws, hl with | [], [_, _], _ => rfl | [_], [_], _ => rfl | [_, _], [], _ => rfl, b__law_power⟩
theorem b__law_all_rows : BodyOk Pr d__law_all_rows ["many", "found", "lap", "row"] "_law_all_rows" (defScope (topS 56)) (defBody (topS 56)) := fun P w k0 k mg base f cd A0 outer s H E L cf n A tk hL mk =>
  ss_cons (s_asg A.G (i := 1) (e_lst (es_cons (e_tup (es_nil)) (es_nil)))) (ss_cons (s_for A.G (i_rng1 rfl (A.blt 2 rfl) (p_pek (q_v 0))) (g_nm (q_g A 2)) (ss_cons (s_asg A.G (i := 1) (e_bin .add (p_e (q_lc A [("row", 3)] 4 (i_seq (e_var (q_v 1))) (fun A => g_nm (q_g A 3)) (fun A => ts_nil) (fun A => e_bin .add (p_pek (q_v 3)) (p_e (e_tup (es_cons (e_int) (es_nil))))))) (p_e (q_lc A [("row", 3)] 4 (i_seq (e_var (q_v 1))) (fun A => g_nm (q_g A 3)) (fun A => ts_nil) (fun A => e_bin .add (p_pek (q_v 3)) (p_e (e_tup (es_cons (e_int) (es_nil))))))))) (ss_nil))) (ss_cons (s_retv (q_v 1)) (ss_nil)))
theorem ro__law_all_rows : RowOk Pr r__law_all_rows := ⟨by decide +kernel, ⟨rfl, rfl, rfl, by decide +kernel, rfl, by decide +kernel, by decide +kernel⟩, rfl, rfl, rfl, by decide, fun kV doc pm an cdv ct us ws hl => match us, ws, hl with | [], [_], _ => rfl | [_], [], _ => rfl, b__law_all_rows⟩
theorem b__law_is_one_right : BodyOk Pr d__law_is_one_right ["pot", "many", "some", "error", "chance", "just", "fine", "side", "told", "fits", "out", "due", "one", "at"] "_law_is_one_right" (defScope (topS 61)) (defBody (topS 61)) := fun P w k0 k mg base f cd A0 outer s H E L cf n A tk hL mk =>
  ss_cons (s_asg A.G (i := 5) (q_cal A 41 d__law_just rfl (as_val (e_var (q_v 1)) (as_val (e_var (q_v 4)) (as_nil))))) (ss_cons (s_ite (t_cmp .ne A.G.un (p_e (e_blB (c_repr A.G.gd A.G.un) (p_e (q_calk A 14 d_chance_at_least rfl ["chance"] (ak_val (e_var (q_v 1)) (ak_val (e_var (q_v 2)) (ak_nil (k_val (e_var (q_v 4)) (k_nil))))))) (hm := A.blt 16 rfl))) (p_e (e_blB (c_repr A.G.gd A.G.un) (p_e (q_cal A 33 d__law_sum rfl (as_val (e_slc (p_pek (q_v 5)) (o_so (p_pek (q_v 2))) (o_no)) (as_nil)))) (hm := A.blt 16 rfl)))) (ss_cons (s_ret (e_bl)) (ss_nil)) (ss_nil)) (ss_cons (s_ite (t_cmp .ne A.G.un (p_e (e_blB (c_repr A.G.gd A.G.un) (p_e (q_calk A 15 d_chance_no_more rfl ["chance"] (ak_val (e_var (q_v 1)) (ak_val (e_var (q_v 2)) (ak_nil (k_val (e_var (q_v 4)) (k_nil))))))) (hm := A.blt 16 rfl))) (p_e (e_blB (c_repr A.G.gd A.G.un) (p_e (q_cal A 33 d__law_sum rfl (as_val (e_slc (p_pek (q_v 5)) (o_no) (o_so (p_e (e_bin .add (p_pek (q_v 2)) (p_e (e_int)))))) (as_nil)))) (hm := A.blt 16 rfl)))) (ss_cons (s_ret (e_bl)) (ss_nil)) (ss_nil)) (ss_cons (s_ite (t_not (t_val (p_e (q_cal A 28 d__law_is_bool rfl (as_val (q_calk A 18 d_is_in_stretch rfl ["chance"] (ak_val (e_var (q_v 1)) (ak_val (e_var (q_v 2)) (ak_val (e_var (q_v 3)) (ak_nil (k_val (e_var (q_v 4)) (k_nil))))))) (as_val (q_cal A 42 d__law_is_in rfl (as_val (e_var (q_v 1)) (as_val (e_var (q_v 2)) (as_val (e_var (q_v 3)) (as_val (e_var (q_v 4)) (as_nil)))))) (as_nil))))) (fun _ => rfl))) (ss_cons (s_ret (e_bl)) (ss_nil)) (ss_nil)) (ss_cons (s_asg A.G (i := 6) (q_cal A 25 d__law_of rfl (as_ref (q_v 0) (as_val (e_lst (es_cons (e_int) (es_cons (e_int) (es_cons (e_int) (es_cons (e_int) (es_cons (e_int) (es_nil))))))) (as_nil))))) (ss_cons (s_for A.G (i_seq (e_tup (es_cons (e_str) (es_cons (e_str) (es_nil))))) (g_nm (q_g A 7)) (ss_cons (s_xasg A.G (i := 8) (q_calkX A tk 20 d_end_of_stretch rfl ["fine"] (ak_val (e_var (q_v 1)) (ak_val (e_var (q_v 2)) (ak_val (e_var (q_v 3)) (ak_val (e_var (q_v 7)) (ak_nil (k_val (e_var (q_v 6)) (k_nil))))))))) (ss_cons (s_ite (t_not (t_val (p_e (q_cal A 43 d__law_is_end_right rfl (as_val (e_var (q_v 1)) (as_val (e_var (q_v 2)) (as_val (e_var (q_v 3)) (as_val (e_var (q_v 7)) (as_val (e_var (q_v 6)) (as_val (e_var (q_v 8)) (as_nil))))))))) (fun _ => rfl))) (ss_cons (s_ret (e_bl)) (ss_nil)) (ss_nil)) (ss_nil)))) (ss_cons (s_asg A.G (i := 9) (e_blT c_tuple (p_e (q_lc A [("one", 12)] 14 (i_rng1 rfl (A.blt 2 rfl) (p_e (e_bin .add (p_pek (q_v 1)) (p_e (e_int))))) (fun A => g_nm (q_g A 12)) (fun A => ts_one (t_val (p_e (q_cal A 42 d__law_is_in rfl (as_val (e_var (q_v 1)) (as_val (e_var (q_v 12)) (as_val (e_var (q_v 3)) (as_val (e_var (q_v 4)) (as_nil))))))) (fun _ => rfl))) (fun A => e_var (q_v 12)))) (hm := A.blt 9 rfl))) (ss_cons (s_ite (t_cmp .ne A.G.un (p_e (e_blB (c_repr A.G.gd A.G.un) (p_e (q_calk A 22 d_seen_in rfl ["chance"] (ak_val (e_var (q_v 1)) (ak_val (e_var (q_v 3)) (ak_nil (k_val (e_var (q_v 4)) (k_nil))))))) (hm := A.blt 16 rfl))) (p_e (e_blB (c_repr A.G.gd A.G.un) (p_pek (q_v 9)) (hm := A.blt 16 rfl)))) (ss_cons (s_ret (e_bl)) (ss_nil)) (ss_nil)) (ss_cons (s_xasg A.G (i := 10) (q_calkX A tk 21 d_left_out rfl ["chance"] (ak_val (e_var (q_v 1)) (ak_val (e_var (q_v 3)) (ak_nil (k_val (e_var (q_v 4)) (k_nil))))))) (ss_cons (s_asg A.G (i := 11) (q_cal A 33 d__law_sum rfl (as_val (q_lc A [("at", 13), ("one", 12)] 14 (i_enm rfl (A.blt 12 rfl) (e_var (q_v 5))) (fun A => g_tp A.G (gs_cons (g_nm (q_g A 13)) (gs_cons (g_nm (q_g A 12)) (gs_nil)))) (fun A => ts_one (t_cmp .notin A.G.un (p_pek (q_v 13)) (p_pek (q_v 9)))) (fun A => e_var (q_v 12))) (as_nil)))) (ss_cons (s_ret (e_and (p_e (e_cmp .eq A.G.un (p_e (e_blB (c_repr A.G.gd A.G.un) (p_pek (q_v 10)) (hm := A.blt 16 rfl))) (p_e (e_blB (c_repr A.G.gd A.G.un) (p_pek (q_v 11)) (hm := A.blt 16 rfl))))) (e_one (e_not (p_e (q_cal A 34 d__law_is_less rfl (as_val (e_var (q_v 3)) (as_val (e_var (q_v 10)) (as_nil))))))))) (ss_nil)))))))))))
theorem ro__law_is_one_right : RowOk Pr r__law_is_one_right := ⟨by decide +kernel, ⟨rfl, rfl, rfl, by decide +kernel, rfl, by decide +kernel, by decide +kernel⟩, rfl, rfl, rfl, by decide, fun kV doc pm an cdv ct us ws hl => match us, ws, hl with | [], [_, _, _, _, _], _ => rfl | [_], [_, _, _, _], _ => rfl | [_, _], [_, _, _], _ => rfl | [_, _, _], [_, _], _ => rfl | [_, _, _, _], [_], _ => rfl | [_, _, _, _, _], [], _ => rfl, b__law_is_one_right⟩
theorem lk51 : LamK Pr lam51 [] dl51 := ⟨⟨rfl, rfl, rfl, by decide +kernel, by decide +kernel, by decide +kernel, by decide +kernel, by decide +kernel⟩, rfl, rfl, rfl, fun q cl pm cv ctv us hl => match us, hl with | [], _ => rfl, lam_xret rfl fun P w k0 k mg base f c' cl A0 outer s H E L cf n A tk => q_calX A tk 22 d_seen_in rfl (as_val (e_var (q_v 0)) (as_val (e_non) (as_val (e_non) (as_nil))))⟩
theorem lk53 : LamK Pr lam53 [] dl53 := ⟨⟨rfl, rfl, rfl, by decide +kernel, by decide +kernel, by decide +kernel, by decide +kernel, by decide +kernel⟩, rfl, rfl, rfl, fun q cl pm cv ctv us hl => match us, hl with | [], _ => rfl, lam_xret rfl fun P w k0 k mg base f c' cl A0 outer s H E L cf n A tk => q_calX A tk 15 d_chance_no_more rfl (as_val (e_int) (as_val (e_var (q_v 0)) (as_val (e_non) (as_nil))))⟩
theorem lk56 : LamK Pr lam56 [] dl56 := ⟨⟨rfl, rfl, rfl, by decide +kernel, by decide +kernel, by decide +kernel, by decide +kernel, by decide +kernel⟩, rfl, rfl, rfl, fun q cl pm cv ctv us hl => match us, hl with | [], _ => rfl, lam_xret rfl fun P w k0 k mg base f c' cl A0 outer s H E L cf n A tk => q_calX A tk 18 d_is_in_stretch rfl (as_val (e_int) (as_val (e_int) (as_val (e_var (q_v 0)) (as_val (e_non) (as_nil)))))⟩
theorem lk59 : LamK Pr lam59 [] dl59 := ⟨⟨rfl, rfl, rfl, by decide +kernel, by decide +kernel, by decide +kernel, by decide +kernel, by decide +kernel⟩, rfl, rfl, rfl, fun q cl pm cv ctv us hl => match us, hl with | [], _ => rfl, lam_xret rfl fun P w k0 k mg base f c' cl A0 outer s H E L cf n A tk => q_calX A tk 14 d_chance_at_least rfl (as_val (e_int) (as_val (e_int) (as_val (e_var (q_v 0)) (as_nil))))⟩
theorem lk62 : LamK Pr lam62 [] dl62 := ⟨⟨rfl, rfl, rfl, by decide +kernel, by decide +kernel, by decide +kernel, by decide +kernel, by decide +kernel⟩, rfl, rfl, rfl, fun q cl pm cv ctv us hl => match us, hl with | [], _ => rfl, lam_xret rfl fun P w k0 k mg base f c' cl A0 outer s H E L cf n A tk => q_calX A tk 20 d_end_of_stretch rfl (as_val (e_int) (as_val (e_int) (as_val (e_tup (es_cons (e_int) (es_cons (e_int) (es_nil)))) (as_val (e_var (q_v 0)) (as_val (e_non) (as_nil))))))⟩
theorem lk65 : LamK Pr lam65 ["miss"] dl65 := ⟨⟨rfl, rfl, rfl, by decide +kernel, by decide +kernel, by decide +kernel, by decide +kernel, by decide +kernel⟩, rfl, rfl, rfl, fun q cl pm cv ctv us hl => match us, hl with | [_], _ => rfl, lam_ret rfl fun P w k0 k mg base f c' cl A0 outer s H E L cf n A tk => q_isx A 2 rfl 1 rfl (p_pek (q_v 0))⟩
end Dn.K69
end

section
set_option linter.all false
set_option autoImplicit false
set_option maxRecDepth 100000
set_option Elab.async false
set_option maxHeartbeats 4000000
/-! K69B2: the rules of k69. Written by gen.py. -/
namespace Dn.K69
open PySem PySem.Spec PyProof.Rows L2 Dn

theorem b_is_exact : BodyOk Pr d_is_exact ["value", "part"] "is_exact" (defScope (topS 13)) (defBody (topS 13)) := fun P w k0 k mg base f cd A0 outer s H E L cf n A tk hL mk =>
  ss_cons (s_ite (t_bop (w_or (t_not (t_val (p_e (q_isi A .tuple 1 9 rfl rfl (p_pek (q_v 0)))) (fun _ => rfl))) (w_one (t_cmp .ne A.G.un (p_e (e_blB c_len (p_pek (q_v 0)) (hm := A.blt 8 rfl))) (p_e (e_int)))))) (ss_cons (s_ret (e_bl)) (ss_nil)) (ss_nil)) (ss_cons (s_ite (t_not (t_val (p_e (e_blB (c_all A.G.calm) (p_e (q_lc A [("part", 1)] 2 (i_seq (e_var (q_v 0))) (fun A => g_nm (q_g A 1)) (fun A => ts_nil) (fun A => e_and (p_e (q_isi A .int 1 5 rfl rfl (p_pek (q_v 1)))) (e_one (e_not (p_e (q_isi A .bool 1 4 rfl rfl (p_pek (q_v 1))))))))) (hm := A.blt 7 rfl))) (fun _ => rfl))) (ss_cons (s_ret (e_bl)) (ss_nil)) (ss_nil)) (ss_cons (s_ret (e_and (p_e (e_cmp .gt A.G.un (p_e (e_idx A.u1 (p_pek (q_v 0)) (p_e (e_int)))) (p_e (e_int)))) (e_one (e_cmp .eq A.G.un (p_e (q_cal A 1 d_told_fraction rfl (as_val (e_idx A.u1 (p_pek (q_v 0)) (p_e (e_int))) (as_val (e_idx A.u1 (p_pek (q_v 0)) (p_e (e_int))) (as_nil))))) (p_pek (q_v 0)))))) (ss_nil)))
theorem ro_is_exact : RowOk Pr r_is_exact := ⟨by decide +kernel, ⟨rfl, rfl, rfl, by decide +kernel, rfl, by decide +kernel, by decide +kernel⟩, rfl, rfl, rfl, by decide, fun kV doc pm an cdv ct us ws hl => match us, ws, hl with | [], [_], _ => rfl | [_], [], _ => rfl, b_is_exact⟩
theorem b_is_less : BodyOk Pr d_is_less ["one", "other"] "is_less" (defScope (topS 19)) (defBody (topS 19)) := fun P w k0 k mg base f cd A0 outer s H E L cf n A tk hL mk =>
  ss_cons (s_ret (e_cmp .lt A.G.un (p_e (e_bin .mul (p_e (e_idx A.u1 (p_pek (q_v 0)) (p_e (e_int)))) (p_e (e_idx A.u1 (p_pek (q_v 1)) (p_e (e_int)))))) (p_e (e_bin .mul (p_e (e_idx A.u1 (p_pek (q_v 1)) (p_e (e_int)))) (p_e (e_idx A.u1 (p_pek (q_v 0)) (p_e (e_int)))))))) (ss_nil)
theorem ro_is_less : RowOk Pr r_is_less := ⟨by decide +kernel, ⟨rfl, rfl, rfl, by decide +kernel, rfl, by decide +kernel, by decide +kernel⟩, rfl, rfl, rfl, by decide, fun kV doc pm an cdv ct us ws hl => match us, ws, hl with | [], [_, _], _ => rfl | [_], [_], _ => rfl | [_, _], [], _ => rfl, b_is_less⟩
theorem b_told_no_more : BodyOk Pr d_told_no_more ["many", "some", "chance", "parts", "whole"] "told_no_more" (defScope (topS 28)) (defBody (topS 28)) := fun P w k0 k mg base f cd A0 outer s H E L cf n A tk hL mk =>
  ss_cons (s_tup (g_tp A.G (gs_cons (g_nm (q_g A 3)) (gs_cons (g_nm (q_g A 4)) (gs_nil)))) (q_cal A 10 d_told_parts rfl (as_val (e_var (q_v 0)) (as_val (e_var (q_v 2)) (as_nil))))) (ss_cons (s_ret (q_cal A 1 d_told_fraction rfl (as_val (e_blB (c_sum A.G.calm) (p_e (e_slc (p_pek (q_v 3)) (o_no) (o_so (p_e (e_bin .add (p_pek (q_v 1)) (p_e (e_int))))))) (hm := A.blt 10 rfl)) (as_val (e_var (q_v 4)) (as_nil))))) (ss_nil))
theorem ro_told_no_more : RowOk Pr r_told_no_more := ⟨by decide +kernel, ⟨rfl, rfl, rfl, by decide +kernel, rfl, by decide +kernel, by decide +kernel⟩, rfl, rfl, rfl, by decide, fun kV doc pm an cdv ct us ws hl => match us, ws, hl with | [], [_, _, _], _ => rfl | [_], [_, _], _ => rfl | [_, _], [_], _ => rfl | [_, _, _], [], _ => rfl, b_told_no_more⟩
theorem b_chance_no_more : BodyOk Pr d_chance_no_more ["many", "some", "chance"] "chance_no_more" (defScope (topS 31)) (defBody (topS 31)) := fun P w k0 k mg base f cd A0 outer s H E L cf n A tk hL mk =>
  ss_cons (s_xexp (q_calX A tk 13 d_look_at_seen rfl (as_val (e_var (q_v 0)) (as_val (e_var (q_v 1)) (as_nil))))) (ss_cons (s_xexp (q_calX A tk 6 d_look_at_chance rfl (as_val (e_var (q_v 2)) (as_nil)))) (ss_cons (s_ret (q_cal A 12 d_told_no_more rfl (as_val (e_var (q_v 0)) (as_val (e_var (q_v 1)) (as_val (e_var (q_v 2)) (as_nil)))))) (ss_nil)))
theorem ro_chance_no_more : RowOk Pr r_chance_no_more := ⟨by decide +kernel, ⟨rfl, rfl, rfl, by decide +kernel, rfl, by decide +kernel, by decide +kernel⟩, rfl, rfl, rfl, by decide, fun kV doc pm an cdv ct us ws hl => match us, ws, hl with | [], [_, _, _], _ => rfl | [_], [_, _], _ => rfl | [_, _], [_], _ => rfl | [_, _, _], [], _ => rfl, b_chance_no_more⟩
theorem b_told_steps : BodyOk Pr d_told_steps ["many", "some", "half", "side", "fine", "low", "high", "middle", "chance", "is_before"] "told_steps" (defScope (topS 35)) (defBody (topS 35)) := fun P w k0 k mg base f cd A0 outer s H E L cf n A tk hL mk =>
  ss_cons (s_par2 (i := 5) (j := 6) A.G (ef_cons (e_int) (ef_cons (e_var (q_v 4)) (ef_nil)))) (ss_cons (s_whl A.G (t_cmp .gt A.G.un (p_e (e_bin .sub (p_pek (q_v 6)) (p_pek (q_v 5)))) (p_e (e_int))) (ss_cons (s_asg A.G (i := 7) (e_bin .fdiv (p_e (e_bin .add (p_pek (q_v 5)) (p_pek (q_v 6)))) (p_e (e_int)))) (ss_cons (s_asg A.G (i := 8) (q_cal A 1 d_told_fraction rfl (as_val (e_var (q_v 7)) (as_val (e_var (q_v 4)) (as_nil))))) (ss_cons (s_ite (t_cmp .eq A.G.un (p_pek (q_v 3)) (p_e (q_cst A 6 c_LOW rfl))) (ss_cons (s_asg A.G (i := 9) (q_cal A 8 d_is_less rfl (as_val (q_cal A 11 d_told_at_least rfl (as_val (e_var (q_v 0)) (as_val (e_var (q_v 1)) (as_val (e_var (q_v 8)) (as_nil))))) (as_val (e_var (q_v 2)) (as_nil))))) (ss_nil)) (ss_cons (s_asg A.G (i := 9) (e_not (p_e (q_cal A 8 d_is_less rfl (as_val (q_cal A 12 d_told_no_more rfl (as_val (e_var (q_v 0)) (as_val (e_var (q_v 1)) (as_val (e_var (q_v 8)) (as_nil))))) (as_val (e_var (q_v 2)) (as_nil))))))) (ss_nil))) (ss_cons (s_tup (g_tp A.G (gs_cons (g_nm (q_g A 5)) (gs_cons (g_nm (q_g A 6)) (gs_nil)))) (e_ite (t_val (p_pek (q_v 9)) (fun _ => rfl)) (e_tup (es_cons (e_var (q_v 7)) (es_cons (e_var (q_v 6)) (es_nil)))) (e_tup (es_cons (e_var (q_v 5)) (es_cons (e_var (q_v 7)) (es_nil)))))) (ss_nil)))))) (ss_cons (s_retv (q_v 5)) (ss_nil)))
theorem ro_told_steps : RowOk Pr r_told_steps := ⟨by decide +kernel, ⟨rfl, rfl, rfl, by decide +kernel, rfl, by decide +kernel, by decide +kernel⟩, rfl, rfl, rfl, by decide, fun kV doc pm an cdv ct us ws hl => match us, ws, hl with | [], [_, _, _, _, _], _ => rfl | [_], [_, _, _, _], _ => rfl | [_, _], [_, _, _], _ => rfl | [_, _, _], [_, _], _ => rfl | [_, _, _, _], [_], _ => rfl | [_, _, _, _, _], [], _ => rfl, b_told_steps⟩
theorem b__law_pot : BodyOk Pr d__law_pot ["script", "place", "cell", "own", "small"] "_law_pot" (defScope (topS 40)) (defBody (topS 40)) := fun P w k0 k mg base f cd A0 outer s H E L cf n A tk hL mk =>
  ss_cons (s_asg A.G (i := 2) (e_ite (t_cmp .lt A.G.un (p_pek (q_v 1)) (p_e (e_blB c_len (p_pek (q_v 0)) (hm := A.blt 8 rfl)))) (e_idx A.u1 (p_pek (q_v 0)) (p_pek (q_v 1))) (e_bin .add (p_e (e_bin .add (p_e (e_bin .mod (p_e (e_blT c_int (p_e (e_blB (c_sum A.G.calm) (p_e (e_slc (p_pek (q_v 0)) (o_no) (o_so (p_e (e_int))))) (hm := A.blt 10 rfl))) (hm := A.blt 5 rfl))) (p_e (e_int)))) (p_e (e_bin .mul (p_e (e_int)) (p_pek (q_v 1)))))) (p_e (e_int))))) (ss_cons (s_asg A.G (i := 3) (e_bin .mul (p_e (e_bin .mod (p_e (e_blT c_int (p_e (e_blB c_abs (p_pek (q_v 2)) (hm := A.blt 6 rfl))) (hm := A.blt 5 rfl))) (p_e (e_bin .pow (p_e (e_bin .pow (p_e (e_int)) (p_e (e_int)))) (p_e (e_int)))))) (p_e (e_blT c_int (p_e (e_cmp .ge A.G.un (p_e (e_blB c_abs (p_pek (q_v 2)) (hm := A.blt 6 rfl))) (p_e (e_bin .pow (p_e (e_int)) (p_e (e_int)))))) (hm := A.blt 5 rfl))))) (ss_cons (s_asg A.G (i := 4) (e_bin .mod (p_e (e_blT c_int (p_pek (q_v 2)) (hm := A.blt 5 rfl))) (p_e (e_int)))) (ss_cons (s_ret (e_lst (es_cons (e_var (q_v 3)) (es_cons (e_bin .mod (p_e (e_blT c_int (p_e (e_bin .add (p_e (e_bin .add (p_e (e_bin .mul (p_pek (q_v 4)) (p_e (e_int)))) (p_e (e_bin .mul (p_e (e_bin .mul (p_e (e_int)) (p_pek (q_v 1)))) (p_pek (q_v 1)))))) (p_e (e_int)))) (hm := A.blt 5 rfl))) (p_e (e_int))) (es_cons (e_int) (es_nil)))))) (ss_nil))))
theorem ro__law_pot : RowOk Pr r__law_pot := ⟨by decide +kernel, ⟨rfl, rfl, rfl, by decide +kernel, rfl, by decide +kernel, by decide +kernel⟩, rfl, rfl, rfl, by decide, fun kV doc pm an cdv ct us ws hl => match us, ws, hl with | [], [_, _], _ => rfl | [_], [_], _ => rfl | [_, _], [], _ => rfl, b__law_pot⟩
theorem b__law_frac : BodyOk Pr d__law_frac ["top", "bottom", "one", "other", "sign"] "_law_frac" (defScope (topS 46)) (defBody (topS 46)) := fun P w k0 k mg base f cd A0 outer s H E L cf n A tk hL mk =>
  ss_cons (s_par2 (i := 2) (j := 3) A.G (ef_cons (e_blB c_abs (p_pek (q_v 0)) (hm := A.blt 6 rfl)) (ef_cons (e_blB c_abs (p_pek (q_v 1)) (hm := A.blt 6 rfl)) (ef_nil)))) (ss_cons (s_whl A.G (t_cmp .ne A.G.un (p_pek (q_v 3)) (p_e (e_int))) (ss_cons (s_par2 (i := 2) (j := 3) A.G (ef_cons (e_var (q_v 3)) (ef_cons (e_bin .mod (p_pek (q_v 2)) (p_pek (q_v 3))) (ef_nil)))) (ss_nil))) (ss_cons (s_asg A.G (i := 4) (e_ite (t_cmp .lt A.G.un (p_pek (q_v 1)) (p_e (e_int))) (e_neg (p_e (e_int))) (e_int))) (ss_cons (s_ret (e_tup (es_cons (e_bin .fdiv (p_e (e_bin .mul (p_pek (q_v 4)) (p_pek (q_v 0)))) (p_pek (q_v 2))) (es_cons (e_bin .fdiv (p_e (e_bin .mul (p_pek (q_v 4)) (p_pek (q_v 1)))) (p_pek (q_v 2))) (es_nil))))) (ss_nil))))
theorem ro__law_frac : RowOk Pr r__law_frac := ⟨by decide +kernel, ⟨rfl, rfl, rfl, by decide +kernel, rfl, by decide +kernel, by decide +kernel⟩, rfl, rfl, rfl, by decide, fun kV doc pm an cdv ct us ws hl => match us, ws, hl with | [], [_, _], _ => rfl | [_], [_], _ => rfl | [_, _], [], _ => rfl, b__law_frac⟩
theorem b__law_is_exact : BodyOk Pr d__law_is_exact ["value", "part"] "_law_is_exact" (defScope (topS 52)) (defBody (topS 52)) := fun P w k0 k mg base f cd A0 outer s H E L cf n A tk hL mk =>
  ss_cons (s_ite (t_bop (w_or (t_not (t_val (p_e (q_isi A .tuple 1 9 rfl rfl (p_pek (q_v 0)))) (fun _ => rfl))) (w_or (t_cmp .ne A.G.un (p_e (e_blB c_len (p_pek (q_v 0)) (hm := A.blt 8 rfl))) (p_e (e_int))) (w_one (t_not (t_val (p_e (e_blB (c_all A.G.calm) (p_e (q_lc A [("part", 1)] 2 (i_seq (e_var (q_v 0))) (fun A => g_nm (q_g A 1)) (fun A => ts_nil) (fun A => q_isi A .int 1 5 rfl rfl (p_pek (q_v 1))))) (hm := A.blt 7 rfl))) (fun _ => rfl))))))) (ss_cons (s_ret (e_bl)) (ss_nil)) (ss_nil)) (ss_cons (s_ite (t_bop (w_or (t_val (p_e (e_blB (c_any A.G.calm) (p_e (q_lc A [("part", 1)] 2 (i_seq (e_var (q_v 0))) (fun A => g_nm (q_g A 1)) (fun A => ts_nil) (fun A => q_isi A .bool 1 4 rfl rfl (p_pek (q_v 1))))) (hm := A.blt 15 rfl))) (fun _ => rfl)) (w_one (t_cmp .lt A.G.un (p_e (e_idx A.u1 (p_pek (q_v 0)) (p_e (e_int)))) (p_e (e_int)))))) (ss_cons (s_ret (e_bl)) (ss_nil)) (ss_nil)) (ss_cons (s_ret (e_cmp .eq A.G.un (p_e (q_cal A 29 d__law_frac rfl (as_val (e_idx A.u1 (p_pek (q_v 0)) (p_e (e_int))) (as_val (e_idx A.u1 (p_pek (q_v 0)) (p_e (e_int))) (as_nil))))) (p_pek (q_v 0)))) (ss_nil)))
theorem ro__law_is_exact : RowOk Pr r__law_is_exact := ⟨by decide +kernel, ⟨rfl, rfl, rfl, by decide +kernel, rfl, by decide +kernel, by decide +kernel⟩, rfl, rfl, rfl, by decide, fun kV doc pm an cdv ct us ws hl => match us, ws, hl with | [], [_], _ => rfl | [_], [], _ => rfl, b__law_is_exact⟩
theorem b__law_just : BodyOk Pr d__law_just ["many", "chance", "found", "none", "lap", "longer", "at", "one"] "_law_just" (defScope (topS 58)) (defBody (topS 58)) := fun P w k0 k mg base f cd A0 outer s H E L cf n A tk hL mk =>
  ss_cons (s_parT A.G (gn_cons (q_g A 2) (gn_cons (q_g A 3) (gn_nil))) (ef_cons (e_lst (es_cons (e_tup (es_cons (e_int) (es_cons (e_int) (es_nil)))) (es_nil))) (ef_cons (q_cal A 32 d__law_less rfl (as_val (e_tup (es_cons (e_int) (es_cons (e_int) (es_nil)))) (as_val (e_var (q_v 1)) (as_nil)))) (ef_nil)))) (ss_cons (s_for A.G (i_rng1 rfl (A.blt 2 rfl) (p_pek (q_v 0))) (g_nm (q_g A 4)) (ss_cons (s_asg A.G (i := 5) (e_bin .add (p_e (q_lc A [("one", 7)] 8 (i_seq (e_var (q_v 2))) (fun A => g_nm (q_g A 7)) (fun A => ts_nil) (fun A => q_cal A 31 d__law_times rfl (as_val (e_var (q_v 7)) (as_val (e_var (q_v 3)) (as_nil)))))) (p_e (e_lst (es_cons (e_tup (es_cons (e_int) (es_cons (e_int) (es_nil)))) (es_nil)))))) (ss_cons (s_for A.G (i_enm rfl (A.blt 12 rfl) (e_var (q_v 2))) (g_tp A.G (gs_cons (g_nm (q_g A 6)) (gs_cons (g_nm (q_g A 7)) (gs_nil)))) (ss_cons (s_set A.G (q_v 5) (p_e (e_bin .add (p_pek (q_v 6)) (p_e (e_int)))) (q_cal A 30 d__law_plus rfl (as_val (e_idx A.u1 (p_pek (q_v 5)) (p_e (e_bin .add (p_pek (q_v 6)) (p_e (e_int))))) (as_val (q_cal A 31 d__law_times rfl (as_val (e_var (q_v 7)) (as_val (e_var (q_v 1)) (as_nil)))) (as_nil))))) (ss_nil))) (ss_cons (s_asg A.G (i := 2) (e_var (q_v 5))) (ss_nil))))) (ss_cons (s_retv (q_v 2)) (ss_nil)))
theorem ro__law_just : RowOk Pr r__law_just := ⟨by decide +kernel, ⟨rfl, rfl, rfl, by decide +kernel, rfl, by decide +kernel, by decide +kernel⟩, rfl, rfl, rfl, by decide, fun kV doc pm an cdv ct us ws hl => match us, ws, hl with | [], [_, _], _ => rfl | [_], [_], _ => rfl | [_, _], [], _ => rfl, b__law_just⟩
theorem b__law_right : BodyOk Pr d__law_right ["pot", "lap", "many", "some", "error"] "_law_right" (defScope (topS 63)) (defBody (topS 63)) := fun P w k0 k mg base f cd A0 outer s H E L cf n A tk hL mk =>
  ss_cons (s_for A.G (i_rng1 rfl (A.blt 2 rfl) (p_e (e_int))) (g_nm (q_g A 1)) (ss_cons (s_asg A.G (i := 2) (e_blT c_int (p_e (e_bin .add (p_e (e_int)) (p_e (q_cal A 24 d__law_take rfl (as_ref (q_v 0) (as_val (e_int) (as_nil))))))) (hm := A.blt 5 rfl))) (ss_cons (s_par2 (i := 3) (j := 4) A.G (ef_cons (e_blT c_int (p_e (q_cal A 24 d__law_take rfl (as_ref (q_v 0) (as_val (e_bin .add (p_pek (q_v 2)) (p_e (e_int))) (as_nil))))) (hm := A.blt 5 rfl)) (ef_cons (q_cal A 25 d__law_of rfl (as_ref (q_v 0) (as_val (e_lst (es_cons (e_tup (es_cons (e_int) (es_cons (e_int) (es_nil)))) (es_cons (e_tup (es_cons (e_int) (es_cons (e_int) (es_nil)))) (es_cons (e_tup (es_cons (e_int) (es_cons (e_int) (es_nil)))) (es_cons (e_tup (es_cons (e_int) (es_cons (e_int) (es_nil)))) (es_cons (e_tup (es_cons (e_int) (es_cons (e_int) (es_nil)))) (es_nil))))))) (as_nil)))) (ef_nil)))) (ss_cons (s_ite (t_not (t_val (p_e (q_cal A 44 d__law_is_one_right rfl (as_ref (q_v 0) (as_val (e_var (q_v 2)) (as_val (e_var (q_v 3)) (as_val (e_var (q_v 4)) (as_val (q_cal A 40 d__law_chance_drawn rfl (as_ref (q_v 0) (as_nil))) (as_nil)))))))) (fun _ => rfl))) (ss_cons (s_ret (e_bl)) (ss_nil)) (ss_nil)) (ss_cons (s_ite (t_not (t_val (p_e (q_cal A 45 d__law_are_odd_refused rfl (as_ref (q_v 0) (as_nil)))) (fun _ => rfl))) (ss_cons (s_ret (e_bl)) (ss_nil)) (ss_nil)) (ss_nil)))))) (ss_cons (s_ret (e_bl)) (ss_nil))
theorem ro__law_right : RowOk Pr r__law_right := ⟨by decide +kernel, ⟨rfl, rfl, rfl, by decide +kernel, rfl, by decide +kernel, by decide +kernel⟩, rfl, rfl, rfl, by decide, fun kV doc pm an cdv ct us ws hl => match us, ws, hl with | [], [_], _ => rfl | [_], [], _ => rfl, b__law_right⟩
theorem b_law : BodyOk Pr d_law ["script", "rows", "due", "low", "high", "told", "row", "at"] "law" (defScope (topS 64)) (defBody (topS 64)) := fun P w k0 k mg base f cd A0 outer s H E L cf n A tk hL mk =>
  ss_cons (s_ite (t_bop (w_or (t_cmp .ne A.G.un (p_e (q_cal A 20 d_end_of_stretch rfl (as_val (e_int) (as_val (e_int) (as_val (e_tup (es_cons (e_int) (es_cons (e_int) (es_nil)))) (as_val (e_str) (as_val (e_int) (as_nil)))))))) (p_e (e_tup (es_cons (e_tup (es_cons (e_int) (es_cons (e_int) (es_nil)))) (es_cons (e_tup (es_cons (e_int) (es_cons (e_int) (es_nil)))) (es_nil)))))) (w_one (t_cmp .ne A.G.un (p_e (q_cal A 21 d_left_out rfl (as_val (e_int) (as_val (e_tup (es_cons (e_int) (es_cons (e_int) (es_nil)))) (as_val (e_tup (es_cons (e_int) (es_cons (e_int) (es_nil)))) (as_nil)))))) (p_e (e_tup (es_cons (e_int) (es_cons (e_int) (es_nil))))))))) (ss_cons (s_ret (e_bl)) (ss_nil)) (ss_nil)) (ss_cons (q_slc A [("row", 6)] 8 1 (i_seq (q_cal A 39 d__law_all_rows rfl (as_val (e_int) (as_nil)))) (fun A => g_nm (q_g A 6)) (fun A => ts_one (t_cmp .ge A.G.un (p_e (e_blB (c_sum A.G.calm) (p_pek (q_v 6)) (hm := A.blt 10 rfl))) (p_e (e_int)))) (fun A => e_var (q_v 6))) (ss_cons (s_asg A.G (i := 2) (q_cal A 33 d__law_sum rfl (as_val (q_lc A [("row", 6)] 8 (i_seq (e_var (q_v 1))) (fun A => g_nm (q_g A 6)) (fun A => ts_nil) (fun A => q_cal A 31 d__law_times rfl (as_val (q_cal A 38 d__law_power rfl (as_val (e_tup (es_cons (e_int) (es_cons (e_int) (es_nil)))) (as_val (e_blB (c_sum A.G.calm) (p_pek (q_v 6)) (hm := A.blt 10 rfl)) (as_nil)))) (as_val (q_cal A 38 d__law_power rfl (as_val (e_tup (es_cons (e_int) (es_cons (e_int) (es_nil)))) (as_val (e_bin .sub (p_e (e_int)) (p_e (e_blB (c_sum A.G.calm) (p_pek (q_v 6)) (hm := A.blt 10 rfl)))) (as_nil)))) (as_nil))))) (as_nil)))) (ss_cons (s_ite (t_bop (w_or (t_cmp .ne A.G.un (p_e (q_cal A 14 d_chance_at_least rfl (as_val (e_int) (as_val (e_int) (as_val (e_tup (es_cons (e_int) (es_cons (e_int) (es_nil)))) (as_nil)))))) (p_pek (q_v 2))) (w_one (t_cmp .ne A.G.un (p_e (q_cal A 15 d_chance_no_more rfl (as_val (e_int) (as_val (e_int) (as_val (e_tup (es_cons (e_int) (es_cons (e_int) (es_nil)))) (as_nil)))))) (p_e (e_tup (es_cons (e_int) (es_cons (e_int) (es_nil))))))))) (ss_cons (s_ret (e_bl)) (ss_nil)) (ss_nil)) (ss_cons (s_tup (g_tp A.G (gs_cons (g_nm (q_g A 3)) (gs_cons (g_nm (q_g A 4)) (gs_nil)))) (q_cal A 20 d_end_of_stretch rfl (as_val (e_int) (as_val (e_int) (as_val (e_tup (es_cons (e_int) (es_cons (e_int) (es_nil)))) (as_val (e_str) (as_val (e_bin .pow (p_e (e_int)) (p_e (e_int))) (as_nil)))))))) (ss_cons (s_ite (t_bop (w_or (t_not (t_val (p_e (q_cal A 42 d__law_is_in rfl (as_val (e_int) (as_val (e_int) (as_val (e_tup (es_cons (e_int) (es_cons (e_int) (es_nil)))) (as_val (e_var (q_v 3)) (as_nil))))))) (fun _ => rfl))) (w_one (t_val (p_e (q_cal A 42 d__law_is_in rfl (as_val (e_int) (as_val (e_int) (as_val (e_tup (es_cons (e_int) (es_cons (e_int) (es_nil)))) (as_val (e_var (q_v 4)) (as_nil))))))) (fun _ => rfl))))) (ss_cons (s_ret (e_bl)) (ss_nil)) (ss_nil)) (ss_cons (s_ite (t_bop (w_or (t_cmp .isnot A.G.un (p_e (q_cal A 18 d_is_in_stretch rfl (as_val (e_int) (as_val (e_int) (as_val (e_tup (es_cons (e_int) (es_cons (e_int) (es_nil)))) (as_val (e_tup (es_cons (e_int) (es_cons (e_int) (es_nil)))) (as_nil))))))) (p_e (e_bl))) (w_one (t_cmp .isnot A.G.un (p_e (q_cal A 18 d_is_in_stretch rfl (as_val (e_int) (as_val (e_int) (as_val (e_tup (es_cons (e_int) (es_cons (e_int) (es_nil)))) (as_val (e_tup (es_cons (e_int) (es_cons (e_int) (es_nil)))) (as_nil))))))) (p_e (e_bl)))))) (ss_cons (s_ret (e_bl)) (ss_nil)) (ss_nil)) (ss_cons (s_xasg A.G (i := 5) (q_calX A tk 20 d_end_of_stretch rfl (as_val (e_int) (as_val (e_int) (as_val (e_tup (es_cons (e_int) (es_cons (e_int) (es_nil)))) (as_val (e_str) (as_val (e_int) (as_nil)))))))) (ss_cons (s_ite (t_not (t_val (p_e (q_cal A 43 d__law_is_end_right rfl (as_val (e_int) (as_val (e_int) (as_val (e_tup (es_cons (e_int) (es_cons (e_int) (es_nil)))) (as_val (e_str) (as_val (e_int) (as_val (e_var (q_v 5)) (as_nil))))))))) (fun _ => rfl))) (ss_cons (s_ret (e_bl)) (ss_nil)) (ss_nil)) (ss_cons (s_ret (e_blB (c_all A.G.calm) (p_e (q_lc A [("at", 7)] 8 (i_seq (q_cal A 26 d__law_cells rfl (as_val (e_var (q_v 0)) (as_val (e_int) (as_nil))))) (fun A => g_nm (q_g A 7)) (fun A => ts_nil) (fun A => q_calT A 46 d__law_right rfl (q_cal A 23 d__law_pot rfl (as_val (e_var (q_v 0)) (as_val (e_var (q_v 7)) (as_nil))))))) (hm := A.blt 7 rfl))) (ss_nil))))))))))
theorem ro_law : RowOk Pr r_law := ⟨by decide +kernel, ⟨rfl, rfl, rfl, by decide +kernel, rfl, by decide +kernel, by decide +kernel⟩, rfl, rfl, rfl, by decide, fun kV doc pm an cdv ct us ws hl => match us, ws, hl with | [], [_], _ => rfl | [_], [], _ => rfl, b_law⟩
theorem lk68 : LamK Pr lam68 ["miss"] dl68 := ⟨⟨rfl, rfl, rfl, by decide +kernel, by decide +kernel, by decide +kernel, by decide +kernel, by decide +kernel⟩, rfl, rfl, rfl, fun q cl pm cv ctv us hl => match us, hl with | [_], _ => rfl, lam_ret rfl fun P w k0 k mg base f c' cl A0 outer s H E L cf n A tk => q_isx A 1 rfl 1 rfl (p_pek (q_v 0))⟩
end Dn.K69
end

section
set_option linter.all false
set_option autoImplicit false
set_option maxRecDepth 100000
set_option Elab.async false
set_option maxHeartbeats 4000000
/-! K69B3: the rules of k69. Written by gen.py. -/
namespace Dn.K69
open PySem PySem.Spec PyProof.Rows L2 Dn

theorem b_is_fraction : BodyOk Pr d_is_fraction ["value"] "is_fraction" (defScope (topS 14)) (defBody (topS 14)) := fun P w k0 k mg base f cd A0 outer s H E L cf n A tk hL mk =>
  ss_cons (s_ret (e_and (p_e (q_cal A 2 d_is_exact rfl (as_val (e_var (q_v 0)) (as_nil)))) (e_and (p_e (q_cal A 0 d_is_int rfl (as_val (e_idx A.u1 (p_pek (q_v 0)) (p_e (e_int))) (as_val (e_neg (p_e (q_cst A 3 c_MOST rfl))) (as_val (q_cst A 3 c_MOST rfl) (as_nil)))))) (e_one (e_cmp .le A.G.un (p_e (e_idx A.u1 (p_pek (q_v 0)) (p_e (e_int)))) (p_e (q_cst A 3 c_MOST rfl))))))) (ss_nil)
theorem ro_is_fraction : RowOk Pr r_is_fraction := ⟨by decide +kernel, ⟨rfl, rfl, rfl, by decide +kernel, rfl, by decide +kernel, by decide +kernel⟩, rfl, rfl, rfl, by decide, fun kV doc pm an cdv ct us ws hl => match us, ws, hl with | [], [_], _ => rfl | [_], [], _ => rfl, b_is_fraction⟩
theorem b_is_chance : BodyOk Pr d_is_chance ["value"] "is_chance" (defScope (topS 16)) (defBody (topS 16)) := fun P w k0 k mg base f cd A0 outer s H E L cf n A tk hL mk =>
  ss_cons (s_ret (e_and (p_e (q_cal A 4 d_is_price rfl (as_val (e_var (q_v 0)) (as_nil)))) (e_one (e_cmp .le A.G.un (p_e (e_idx A.u1 (p_pek (q_v 0)) (p_e (e_int)))) (p_e (e_idx A.u1 (p_pek (q_v 0)) (p_e (e_int)))))))) (ss_nil)
theorem ro_is_chance : RowOk Pr r_is_chance := ⟨by decide +kernel, ⟨rfl, rfl, rfl, by decide +kernel, rfl, by decide +kernel, by decide +kernel⟩, rfl, rfl, rfl, by decide, fun kV doc pm an cdv ct us ws hl => match us, ws, hl with | [], [_], _ => rfl | [_], [], _ => rfl, b_is_chance⟩
theorem b_told_ways : BodyOk Pr d_told_ways ["many", "some", "found", "one"] "told_ways" (defScope (topS 25)) (defBody (topS 25)) := fun P w k0 k mg base f cd A0 outer s H E L cf n A tk hL mk =>
  ss_cons (s_asg A.G (i := 2) (e_int)) (ss_cons (s_for A.G (i_rng1 rfl (A.blt 2 rfl) (p_pek (q_v 1))) (g_nm (q_g A 3)) (ss_cons (s_asg A.G (i := 2) (e_bin .fdiv (p_e (e_bin .mul (p_pek (q_v 2)) (p_e (e_bin .sub (p_pek (q_v 0)) (p_pek (q_v 3)))))) (p_e (e_bin .add (p_pek (q_v 3)) (p_e (e_int)))))) (ss_nil))) (ss_cons (s_retv (q_v 2)) (ss_nil)))
theorem ro_told_ways : RowOk Pr r_told_ways := ⟨by decide +kernel, ⟨rfl, rfl, rfl, by decide +kernel, rfl, by decide +kernel, by decide +kernel⟩, rfl, rfl, rfl, by decide, fun kV doc pm an cdv ct us ws hl => match us, ws, hl with | [], [_, _], _ => rfl | [_], [_], _ => rfl | [_, _], [], _ => rfl, b_told_ways⟩
theorem b_look_at_seen : BodyOk Pr d_look_at_seen ["many", "some"] "look_at_seen" (defScope (topS 29)) (defBody (topS 29)) := fun P w k0 k mg base f cd A0 outer s H E L cf n A tk hL mk =>
  ss_cons (s_ite (t_not (t_val (p_e (q_cal A 0 d_is_int rfl (as_val (e_var (q_v 0)) (as_val (e_int) (as_val (q_cst A 4 c_MOST_SEEN rfl) (as_nil)))))) (fun _ => rfl))) (ss_cons (q_rais A tk 2 rfl (e_var (q_v 0))) (ss_nil)) (ss_nil)) (ss_cons (s_ite (t_not (t_val (p_e (q_cal A 0 d_is_int rfl (as_val (e_var (q_v 1)) (as_val (e_int) (as_val (e_var (q_v 0)) (as_nil)))))) (fun _ => rfl))) (ss_cons (q_rais A tk 2 rfl (e_var (q_v 1))) (ss_nil)) (ss_nil)) (ss_nil))
theorem ro_look_at_seen : RowOk Pr r_look_at_seen := ⟨by decide +kernel, ⟨rfl, rfl, rfl, by decide +kernel, rfl, by decide +kernel, by decide +kernel⟩, rfl, rfl, rfl, by decide, fun kV doc pm an cdv ct us ws hl => match us, ws, hl with | [], [_, _], _ => rfl | [_], [_], _ => rfl | [_, _], [], _ => rfl, b_look_at_seen⟩
theorem b_look_at_error : BodyOk Pr d_look_at_error ["error"] "look_at_error" (defScope (topS 32)) (defBody (topS 32)) := fun P w k0 k mg base f cd A0 outer s H E L cf n A tk hL mk =>
  ss_cons (s_ite (t_bop (w_or (t_not (t_val (p_e (q_cal A 5 d_is_chance rfl (as_val (e_var (q_v 0)) (as_nil)))) (fun _ => rfl))) (w_one (t_cmp .in_ A.G.un (p_pek (q_v 0)) (p_e (e_tup (es_cons (q_cst A 0 c_NOUGHT rfl) (es_cons (q_cst A 1 c_ONE rfl) (es_nil))))))))) (ss_cons (q_rais A tk 1 rfl (e_var (q_v 0))) (ss_nil)) (ss_nil)) (ss_nil)
theorem ro_look_at_error : RowOk Pr r_look_at_error := ⟨by decide +kernel, ⟨rfl, rfl, rfl, by decide +kernel, rfl, by decide +kernel, by decide +kernel⟩, rfl, rfl, rfl, by decide, fun kV doc pm an cdv ct us ws hl => match us, ws, hl with | [], [_], _ => rfl | [_], [], _ => rfl, b_look_at_error⟩
theorem b_end_of_stretch : BodyOk Pr d_end_of_stretch ["many", "some", "error", "side", "fine", "step"] "end_of_stretch" (defScope (topS 36)) (defBody (topS 36)) := fun P w k0 k mg base f cd A0 outer s H E L cf n A tk hL mk =>
  ss_cons (s_xexp (q_calX A tk 13 d_look_at_seen rfl (as_val (e_var (q_v 0)) (as_val (e_var (q_v 1)) (as_nil))))) (ss_cons (s_xexp (q_calX A tk 16 d_look_at_error rfl (as_val (e_var (q_v 2)) (as_nil)))) (ss_cons (s_ite (t_bop (w_or (t_not (t_val (p_e (q_isi A .str 1 11 rfl rfl (p_pek (q_v 3)))) (fun _ => rfl))) (w_one (t_cmp .notin A.G.un (p_pek (q_v 3)) (p_e (e_tup (es_cons (q_cst A 6 c_LOW rfl) (es_cons (q_cst A 7 c_HIGH rfl) (es_nil))))))))) (ss_cons (q_rais A tk 3 rfl (e_var (q_v 3))) (ss_nil)) (ss_nil)) (ss_cons (s_ite (t_not (t_val (p_e (q_cal A 0 d_is_int rfl (as_val (e_var (q_v 4)) (as_val (e_int) (as_val (q_cst A 5 c_MOST_FINE rfl) (as_nil)))))) (fun _ => rfl))) (ss_cons (q_rais A tk 2 rfl (e_var (q_v 4))) (ss_nil)) (ss_nil)) (ss_cons (s_ite (t_bop (w_and (t_cmp .eq A.G.un (p_pek (q_v 3)) (p_e (q_cst A 6 c_LOW rfl))) (w_one (t_cmp .eq A.G.un (p_pek (q_v 1)) (p_e (e_int)))))) (ss_cons (s_ret (e_tup (es_cons (q_cst A 0 c_NOUGHT rfl) (es_cons (q_cst A 0 c_NOUGHT rfl) (es_nil))))) (ss_nil)) (ss_nil)) (ss_cons (s_ite (t_bop (w_and (t_cmp .eq A.G.un (p_pek (q_v 3)) (p_e (q_cst A 7 c_HIGH rfl))) (w_one (t_cmp .eq A.G.un (p_pek (q_v 1)) (p_pek (q_v 0)))))) (ss_cons (s_ret (e_tup (es_cons (q_cst A 1 c_ONE rfl) (es_cons (q_cst A 1 c_ONE rfl) (es_nil))))) (ss_nil)) (ss_nil)) (ss_cons (s_asg A.G (i := 5) (q_cal A 19 d_told_steps rfl (as_val (e_var (q_v 0)) (as_val (e_var (q_v 1)) (as_val (q_cal A 7 d_times rfl (as_val (e_var (q_v 2)) (as_val (q_cst A 2 c_HALF rfl) (as_nil)))) (as_val (e_var (q_v 3)) (as_val (e_var (q_v 4)) (as_nil)))))))) (ss_cons (s_ret (e_tup (es_cons (q_cal A 1 d_told_fraction rfl (as_val (e_var (q_v 5)) (as_val (e_var (q_v 4)) (as_nil)))) (es_cons (q_cal A 1 d_told_fraction rfl (as_val (e_bin .add (p_pek (q_v 5)) (p_e (e_int))) (as_val (e_var (q_v 4)) (as_nil)))) (es_nil))))) (ss_nil))))))))
theorem ro_end_of_stretch : RowOk Pr r_end_of_stretch := ⟨by decide +kernel, ⟨rfl, rfl, rfl, by decide +kernel, rfl, by decide +kernel, by decide +kernel⟩, rfl, rfl, rfl, by decide, fun kV doc pm an cdv ct us ws hl => match us, ws, hl with | [], [_, _, _, _, _], _ => rfl | [_], [_, _, _, _], _ => rfl | [_, _], [_, _, _], _ => rfl | [_, _, _], [_, _], _ => rfl | [_, _, _, _], [_], _ => rfl | [_, _, _, _, _], [], _ => rfl, b_end_of_stretch⟩
theorem b__law_cells : BodyOk Pr d__law_cells ["script", "most"] "_law_cells" (defScope (topS 43)) (defBody (topS 43)) := fun P w k0 k mg base f cd A0 outer s H E L cf n A tk hL mk =>
  ss_cons (s_ret (e_lrg1 A.G rfl (A.blt 3 rfl) rfl (A.blt 2 rfl) (p_e (e_blM (c_max2 A.G.calm) (p_e (e_int)) (p_e (e_blM (c_min2 A.G.calm) (p_pek (q_v 1)) (p_e (e_blB c_len (p_pek (q_v 0)) (hm := A.blt 8 rfl))) (hm := A.blt 13 rfl))) (hm := A.blt 14 rfl))))) (ss_nil)
theorem ro__law_cells : RowOk Pr r__law_cells := ⟨by decide +kernel, ⟨rfl, rfl, rfl, by decide +kernel, rfl, by decide +kernel, by decide +kernel⟩, rfl, rfl, rfl, by decide, fun kV doc pm an cdv ct us ws hl => match us, ws, hl with | [], [_, _], _ => rfl | [_], [_], _ => rfl | [_, _], [], _ => rfl, b__law_cells⟩
theorem b__law_is_bool : BodyOk Pr d__law_is_bool ["told", "due"] "_law_is_bool" (defScope (topS 45)) (defBody (topS 45)) := fun P w k0 k mg base f cd A0 outer s H E L cf n A tk hL mk =>
  ss_cons (s_ret (e_and (p_e (q_isi A .bool 1 4 rfl rfl (p_pek (q_v 0)))) (e_one (e_cmp .eq A.G.un (p_pek (q_v 0)) (p_pek (q_v 1)))))) (ss_nil)
theorem ro__law_is_bool : RowOk Pr r__law_is_bool := ⟨by decide +kernel, ⟨rfl, rfl, rfl, by decide +kernel, rfl, by decide +kernel, by decide +kernel⟩, rfl, rfl, rfl, by decide, fun kV doc pm an cdv ct us ws hl => match us, ws, hl with | [], [_, _], _ => rfl | [_], [_], _ => rfl | [_, _], [], _ => rfl, b__law_is_bool⟩
theorem b__law_plus : BodyOk Pr d__law_plus ["one", "other"] "_law_plus" (defScope (topS 47)) (defBody (topS 47)) := fun P w k0 k mg base f cd A0 outer s H E L cf n A tk hL mk =>
  ss_cons (s_ret (q_cal A 29 d__law_frac rfl (as_val (e_bin .add (p_e (e_bin .mul (p_e (e_idx A.u1 (p_pek (q_v 0)) (p_e (e_int)))) (p_e (e_idx A.u1 (p_pek (q_v 1)) (p_e (e_int)))))) (p_e (e_bin .mul (p_e (e_idx A.u1 (p_pek (q_v 1)) (p_e (e_int)))) (p_e (e_idx A.u1 (p_pek (q_v 0)) (p_e (e_int))))))) (as_val (e_bin .mul (p_e (e_idx A.u1 (p_pek (q_v 0)) (p_e (e_int)))) (p_e (e_idx A.u1 (p_pek (q_v 1)) (p_e (e_int))))) (as_nil))))) (ss_nil)
theorem ro__law_plus : RowOk Pr r__law_plus := ⟨by decide +kernel, ⟨rfl, rfl, rfl, by decide +kernel, rfl, by decide +kernel, by decide +kernel⟩, rfl, rfl, rfl, by decide, fun kV doc pm an cdv ct us ws hl => match us, ws, hl with | [], [_, _], _ => rfl | [_], [_], _ => rfl | [_, _], [], _ => rfl, b__law_plus⟩
theorem b__law_is_less : BodyOk Pr d__law_is_less ["one", "other"] "_law_is_less" (defScope (topS 51)) (defBody (topS 51)) := fun P w k0 k mg base f cd A0 outer s H E L cf n A tk hL mk =>
  ss_cons (s_ret (e_cmp .lt A.G.un (p_e (e_bin .mul (p_e (e_idx A.u1 (p_pek (q_v 0)) (p_e (e_int)))) (p_e (e_idx A.u1 (p_pek (q_v 1)) (p_e (e_int)))))) (p_e (e_bin .mul (p_e (e_idx A.u1 (p_pek (q_v 1)) (p_e (e_int)))) (p_e (e_idx A.u1 (p_pek (q_v 0)) (p_e (e_int)))))))) (ss_nil)
theorem ro__law_is_less : RowOk Pr r__law_is_less := ⟨by decide +kernel, ⟨rfl, rfl, rfl, by decide +kernel, rfl, by decide +kernel, by decide +kernel⟩, rfl, rfl, rfl, by decide, fun kV doc pm an cdv ct us ws hl => match us, ws, hl with | [], [_, _], _ => rfl | [_], [_], _ => rfl | [_, _], [], _ => rfl, b__law_is_less⟩
theorem b__law_are_refused : BodyOk Pr d__law_are_refused ["looks", "is_kind", "value", "look", "caught"] "_law_are_refused" (defScope (topS 53)) (defBody (topS 53)) := fun P w k0 k mg base f cd A0 outer s H E L cf n A tk hL mk =>
  ss_cons (s_for A.G (i_seq (e_var (q_v 0))) (g_nm (q_g A 3)) (ss_cons (s_asg A.G (i := 4) (e_idx A.u1 (p_e (q_cal A 27 d__law_heard rfl (as_val (e_var (q_v 3)) (as_nil)))) (p_e (e_int)))) (ss_cons (s_ite (t_bop (w_or (t_cmp .is_ A.G.un (p_pek (q_v 4)) (p_e (e_non))) (w_or (t_not (t_val (p_e (q_clv A (i := 1) (as_val (e_var (q_v 4)) (as_nil)))) (fun _ => rfl))) (w_one (t_cmp .ne A.G.un (p_e (e_blB (c_repr A.G.gd A.G.un) (p_e (q_exv A (p_pek (q_v 4)))) (hm := A.blt 16 rfl))) (p_e (e_blB (c_repr A.G.gd A.G.un) (p_pek (q_v 2)) (hm := A.blt 16 rfl)))))))) (ss_cons (s_ret (e_bl)) (ss_nil)) (ss_nil)) (ss_nil)))) (ss_cons (s_ret (e_bl)) (ss_nil))
theorem ro__law_are_refused : RowOk Pr r__law_are_refused := ⟨by decide +kernel, ⟨rfl, rfl, rfl, by decide +kernel, rfl, by decide +kernel, by decide +kernel⟩, rfl, rfl, rfl, by decide, fun kV doc pm an cdv ct us ws hl => match us, ws, hl with | [], [_, _, _], _ => rfl | [_], [_, _], _ => rfl | [_, _], [_], _ => rfl | [_, _, _], [], _ => rfl, b__law_are_refused⟩
theorem b__law_is_in : BodyOk Pr d__law_is_in ["many", "some", "error", "chance", "just", "half"] "_law_is_in" (defScope (topS 59)) (defBody (topS 59)) := fun P w k0 k mg base f cd A0 outer s H E L cf n A tk hL mk =>
  ss_cons (s_asg A.G (i := 4) (q_cal A 41 d__law_just rfl (as_val (e_var (q_v 0)) (as_val (e_var (q_v 3)) (as_nil))))) (ss_cons (s_asg A.G (i := 5) (q_cal A 31 d__law_times rfl (as_val (e_var (q_v 2)) (as_val (e_tup (es_cons (e_int) (es_cons (e_int) (es_nil)))) (as_nil))))) (ss_cons (s_ret (e_and (p_e (e_not (p_e (q_cal A 34 d__law_is_less rfl (as_val (q_cal A 33 d__law_sum rfl (as_val (e_slc (p_pek (q_v 4)) (o_so (p_pek (q_v 1))) (o_no)) (as_nil))) (as_val (e_var (q_v 5)) (as_nil))))))) (e_one (e_not (p_e (q_cal A 34 d__law_is_less rfl (as_val (q_cal A 33 d__law_sum rfl (as_val (e_slc (p_pek (q_v 4)) (o_no) (o_so (p_e (e_bin .add (p_pek (q_v 1)) (p_e (e_int)))))) (as_nil))) (as_val (e_var (q_v 5)) (as_nil))))))))) (ss_nil)))
theorem ro__law_is_in : RowOk Pr r__law_is_in := ⟨by decide +kernel, ⟨rfl, rfl, rfl, by decide +kernel, rfl, by decide +kernel, by decide +kernel⟩, rfl, rfl, rfl, by decide, fun kV doc pm an cdv ct us ws hl => match us, ws, hl with | [], [_, _, _, _], _ => rfl | [_], [_, _, _], _ => rfl | [_, _], [_, _], _ => rfl | [_, _, _], [_], _ => rfl | [_, _, _, _], [], _ => rfl, b__law_is_in⟩
theorem b__law_are_odd_refused : BodyOk Pr d__law_are_odd_refused ["pot", "bad", "looks"] "_law_are_odd_refused" (defScope (topS 62)) (defBody (topS 62)) := fun P w k0 k mg base f cd A0 outer s H E L cf n A tk hL mk => by
  obtain rfl := hL rfl
  have hLams : ∀ j ∈ [48, 49, 50, 51, 52, 53, 54, 55, 56, 57, 58, 59, 60, 61, 62, 63, 64, 65, 66, 67, 68], ∀ t, Pr.lamOf j = some t → LamAt (cxG P w k mg base ["pot", "bad", "looks"] "_law_are_odd_refused" (defScope (topS 62)) f cd A0 outer s H E) t := fun j hj t ht => by
    simp only [List.mem_cons, List.not_mem_nil, or_false] at hj
    rcases hj with rfl | rfl | rfl | rfl | rfl | rfl | rfl | rfl | rfl | rfl | rfl | rfl | rfl | rfl | rfl | rfl | rfl | rfl | rfl | rfl | rfl <;> (cases ht; exact lamAt_of rfl rfl rfl (by decide +kernel))
  exact ss_cons (s_asg A.G (i := 1) (q_cal A 25 d__law_of rfl (as_ref (q_v 0) (as_val (e_lst (es_cons (e_non) (es_cons (e_bl) (es_cons (e_int) (es_cons (e_int) (es_cons (e_str) (es_nil))))))) (as_nil))))) (ss_cons (s_asg A.G (i := 2) (e_lst (es_cons (q_lam A mk 48 (t := lam48) rfl) (es_nil)))) (ss_cons (s_app (q_v 2) (q_lam A mk 49 (t := lam49) rfl)) (ss_cons (s_app (q_v 2) (q_lam A mk 50 (t := lam50) rfl)) (ss_cons (s_app (q_v 2) (q_lam A mk 51 (t := lam51) rfl)) (ss_cons (s_ite (t_not (t_val (p_e (q_caly A 36 d__law_are_refused rfl [48, 49, 50, 51, 52, 53, 54, 55, 56, 57, 58, 59, 60, 61, 62, 63, 64, 65, 66, 67, 68] hLams (as_val (e_var (q_v 2)) (as_val (q_lam A mk 64 (t := lam64) rfl) (as_val (e_var (q_v 1)) (as_nil)))))) (fun _ => rfl))) (ss_cons (s_ret (e_bl)) (ss_nil)) (ss_nil)) (ss_cons (s_asg A.G (i := 1) (q_cal A 25 d__law_of rfl (as_ref (q_v 0) (as_val (e_lst (es_cons (e_non) (es_cons (e_bl) (es_cons (e_int) (es_cons (e_bin .add (p_e (e_bin .pow (p_e (e_int)) (p_e (e_int)))) (p_e (e_int))) (es_cons (e_str) (es_nil))))))) (as_nil))))) (ss_cons (s_asg A.G (i := 2) (e_lst (es_cons (q_lam A mk 52 (t := lam52) rfl) (es_nil)))) (ss_cons (s_ite (t_not (t_val (p_e (q_caly A 36 d__law_are_refused rfl [48, 49, 50, 51, 52, 53, 54, 55, 56, 57, 58, 59, 60, 61, 62, 63, 64, 65, 66, 67, 68] hLams (as_val (e_var (q_v 2)) (as_val (q_lam A mk 65 (t := lam65) rfl) (as_val (e_var (q_v 1)) (as_nil)))))) (fun _ => rfl))) (ss_cons (s_ret (e_bl)) (ss_nil)) (ss_nil)) (ss_cons (s_asg A.G (i := 1) (q_cal A 25 d__law_of rfl (as_ref (q_v 0) (as_val (e_lst (es_cons (e_non) (es_cons (e_bl) (es_cons (e_neg (p_e (e_int))) (es_cons (e_int) (es_cons (e_str) (es_nil))))))) (as_nil))))) (ss_cons (s_asg A.G (i := 2) (e_lst (es_cons (q_lam A mk 53 (t := lam53) rfl) (es_nil)))) (ss_cons (s_app (q_v 2) (q_lam A mk 54 (t := lam54) rfl)) (ss_cons (s_app (q_v 2) (q_lam A mk 55 (t := lam55) rfl)) (ss_cons (s_ite (t_not (t_val (p_e (q_caly A 36 d__law_are_refused rfl [48, 49, 50, 51, 52, 53, 54, 55, 56, 57, 58, 59, 60, 61, 62, 63, 64, 65, 66, 67, 68] hLams (as_val (e_var (q_v 2)) (as_val (q_lam A mk 66 (t := lam66) rfl) (as_val (e_var (q_v 1)) (as_nil)))))) (fun _ => rfl))) (ss_cons (s_ret (e_bl)) (ss_nil)) (ss_nil)) (ss_cons (s_asg A.G (i := 1) (q_cal A 25 d__law_of rfl (as_ref (q_v 0) (as_val (e_lst (es_cons (q_cal A 37 d__law_bad_chances rfl (as_ref (q_v 0) (as_nil))) (es_cons (e_tup (es_cons (e_int) (es_cons (e_int) (es_nil)))) (es_cons (e_tup (es_cons (e_int) (es_cons (e_int) (es_nil)))) (es_nil))))) (as_nil))))) (ss_cons (s_asg A.G (i := 2) (e_lst (es_cons (q_lam A mk 56 (t := lam56) rfl) (es_nil)))) (ss_cons (s_app (q_v 2) (q_lam A mk 57 (t := lam57) rfl)) (ss_cons (s_app (q_v 2) (q_lam A mk 58 (t := lam58) rfl)) (ss_cons (s_ite (t_not (t_val (p_e (q_caly A 36 d__law_are_refused rfl [48, 49, 50, 51, 52, 53, 54, 55, 56, 57, 58, 59, 60, 61, 62, 63, 64, 65, 66, 67, 68] hLams (as_val (e_var (q_v 2)) (as_val (q_lam A mk 67 (t := lam67) rfl) (as_val (e_var (q_v 1)) (as_nil)))))) (fun _ => rfl))) (ss_cons (s_ret (e_bl)) (ss_nil)) (ss_nil)) (ss_cons (s_asg A.G (i := 1) (q_cal A 37 d__law_bad_chances rfl (as_ref (q_v 0) (as_nil)))) (ss_cons (s_asg A.G (i := 2) (e_lst (es_cons (q_lam A mk 59 (t := lam59) rfl) (es_nil)))) (ss_cons (s_app (q_v 2) (q_lam A mk 60 (t := lam60) rfl)) (ss_cons (s_app (q_v 2) (q_lam A mk 61 (t := lam61) rfl)) (ss_cons (s_ite (t_not (t_val (p_e (q_caly A 36 d__law_are_refused rfl [48, 49, 50, 51, 52, 53, 54, 55, 56, 57, 58, 59, 60, 61, 62, 63, 64, 65, 66, 67, 68] hLams (as_val (e_var (q_v 2)) (as_val (q_lam A mk 68 (t := lam68) rfl) (as_val (e_var (q_v 1)) (as_nil)))))) (fun _ => rfl))) (ss_cons (s_ret (e_bl)) (ss_nil)) (ss_nil)) (ss_cons (s_asg A.G (i := 1) (q_cal A 25 d__law_of rfl (as_ref (q_v 0) (as_val (e_lst (es_cons (e_non) (es_cons (e_int) (es_cons (e_str) (es_cons (e_str) (es_cons (e_tup (es_cons (e_str) (es_nil))) (es_nil))))))) (as_nil))))) (ss_cons (s_asg A.G (i := 2) (e_lst (es_cons (q_lam A mk 62 (t := lam62) rfl) (es_nil)))) (ss_cons (s_ret (q_caly A 36 d__law_are_refused rfl [48, 49, 50, 51, 52, 53, 54, 55, 56, 57, 58, 59, 60, 61, 62, 63, 64, 65, 66, 67, 68] hLams (as_val (e_var (q_v 2)) (as_val (q_lam A mk 63 (t := lam63) rfl) (as_val (e_var (q_v 1)) (as_nil)))))) (ss_nil)))))))))))))))))))))))))))
theorem ro__law_are_odd_refused : RowOk Pr r__law_are_odd_refused := ⟨by decide +kernel, ⟨rfl, rfl, rfl, by decide +kernel, rfl, by decide +kernel, by decide +kernel⟩, rfl, rfl, rfl, by decide, fun kV doc pm an cdv ct us ws hl => match us, ws, hl with | [], [_], _ => rfl | [_], [], _ => rfl, b__law_are_odd_refused⟩
theorem lk54 : LamK Pr lam54 [] dl54 := ⟨⟨rfl, rfl, rfl, by decide +kernel, by decide +kernel, by decide +kernel, by decide +kernel, by decide +kernel⟩, rfl, rfl, rfl, fun q cl pm cv ctv us hl => match us, hl with | [], _ => rfl, lam_xret rfl fun P w k0 k mg base f c' cl A0 outer s H E L cf n A tk => q_calX A tk 18 d_is_in_stretch rfl (as_val (e_int) (as_val (e_var (q_v 0)) (as_val (e_non) (as_val (e_non) (as_nil)))))⟩
theorem lk57 : LamK Pr lam57 [] dl57 := ⟨⟨rfl, rfl, rfl, by decide +kernel, by decide +kernel, by decide +kernel, by decide +kernel, by decide +kernel⟩, rfl, rfl, rfl, fun q cl pm cv ctv us hl => match us, hl with | [], _ => rfl, lam_xret rfl fun P w k0 k mg base f c' cl A0 outer s H E L cf n A tk => q_calX A tk 20 d_end_of_stretch rfl (as_val (e_int) (as_val (e_int) (as_val (e_var (q_v 0)) (as_val (e_non) (as_val (e_non) (as_nil))))))⟩
theorem lk60 : LamK Pr lam60 [] dl60 := ⟨⟨rfl, rfl, rfl, by decide +kernel, by decide +kernel, by decide +kernel, by decide +kernel, by decide +kernel⟩, rfl, rfl, rfl, fun q cl pm cv ctv us hl => match us, hl with | [], _ => rfl, lam_xret rfl fun P w k0 k mg base f c' cl A0 outer s H E L cf n A tk => q_calX A tk 18 d_is_in_stretch rfl (as_val (e_int) (as_val (e_int) (as_val (e_tup (es_cons (e_int) (es_cons (e_int) (es_nil)))) (as_val (e_var (q_v 0)) (as_nil)))))⟩
theorem lk64 : LamK Pr lam64 ["miss"] dl64 := ⟨⟨rfl, rfl, rfl, by decide +kernel, by decide +kernel, by decide +kernel, by decide +kernel, by decide +kernel⟩, rfl, rfl, rfl, fun q cl pm cv ctv us hl => match us, hl with | [_], _ => rfl, lam_ret rfl fun P w k0 k mg base f c' cl A0 outer s H E L cf n A tk => q_isx A 2 rfl 1 rfl (p_pek (q_v 0))⟩
theorem lk67 : LamK Pr lam67 ["miss"] dl67 := ⟨⟨rfl, rfl, rfl, by decide +kernel, by decide +kernel, by decide +kernel, by decide +kernel, by decide +kernel⟩, rfl, rfl, rfl, fun q cl pm cv ctv us hl => match us, hl with | [_], _ => rfl, lam_ret rfl fun P w k0 k mg base f c' cl A0 outer s H E L cf n A tk => q_isx A 1 rfl 1 rfl (p_pek (q_v 0))⟩
end Dn.K69
end

section
set_option linter.all false
set_option autoImplicit false
set_option maxRecDepth 100000
set_option Elab.async false
set_option maxHeartbeats 0
/-! K69H: the head and the end of k69. Written by gen.py. -/
namespace Dn.K69
open PySem PySem.Spec PyProof.Rows L2 Dn
theorem rows_ok : RowsOk Pr rows := .cons ro_is_int (.cons ro_told_fraction (.cons ro_is_exact (.cons ro_is_fraction (.cons ro_is_price (.cons ro_is_chance (.cons ro_look_at_chance (.cons ro_times (.cons ro_is_less (.cons ro_told_ways (.cons ro_told_parts (.cons ro_told_at_least (.cons ro_told_no_more (.cons ro_look_at_seen (.cons ro_chance_at_least (.cons ro_chance_no_more (.cons ro_look_at_error (.cons ro_told_is_in (.cons ro_is_in_stretch (.cons ro_told_steps (.cons ro_end_of_stretch (.cons ro_left_out (.cons ro_seen_in (.cons ro__law_pot (.cons ro__law_take (.cons ro__law_of (.cons ro__law_cells (.cons ro__law_heard (.cons ro__law_is_bool (.cons ro__law_frac (.cons ro__law_plus (.cons ro__law_times (.cons ro__law_less (.cons ro__law_sum (.cons ro__law_is_less (.cons ro__law_is_exact (.cons ro__law_are_refused (.cons ro__law_bad_chances (.cons ro__law_power (.cons ro__law_all_rows (.cons ro__law_chance_drawn (.cons ro__law_just (.cons ro__law_is_in (.cons ro__law_is_end_right (.cons ro__law_is_one_right (.cons ro__law_are_odd_refused (.cons ro__law_right (.cons ro_law (.nil))))))))))))))))))))))))))))))))))))))))))))))))
theorem lams_ok : LamsOk Pr Pr.lams := .cons lk48 (.cons lk49 (.cons lk50 (.cons lk51 (.cons lk52 (.cons lk53 (.cons lk54 (.cons lk55 (.cons lk56 (.cons lk57 (.cons lk58 (.cons lk59 (.cons lk60 (.cons lk61 (.cons lk62 (.cons lk63 (.cons lk64 (.cons lk65 (.cons lk66 (.cons lk67 (.cons lk68 (.nil)))))))))))))))))))))
abbrev R : PySem.W.OpenRow := PySem.W.OpenLaw.row PySem.Challenge.rw_orderedahead_k69_whole_sharp_stretches
abbrev hx : Hx := hxOf Pr rows ini
abbrev hk : PySem.W.Hook := hookX PySem.Challenge.rw_orderedahead_k69_whole_sharp_stretches.prog hx
def ob (s : PySem.W.SharedT) : AlX := obsX PySem.Challenge.rw_orderedahead_k69_whole_sharp_stretches.prog hx (HandSHeadRun.getT s)
theorem ob_eq (s : PySem.W.SharedT) : ob s = hk.obs s.abs := obsX_eq (HandSHeadRun.getT_eq s)
def nm0 : List PySem.Str := ["StockError", "BadChance", "BadInt", "BadName", "is_int", "NOUGHT", "ONE", "HALF", "MOST", "told_fraction", "is_exact", "is_fraction", "is_price", "is_chance", "look_at_chance", "times", "is_less", "MOST_SEEN", "MOST_FINE", "LOW", "HIGH", "told_ways", "told_parts", "told_at_least", "told_no_more", "look_at_seen", "chance_at_least", "chance_no_more", "look_at_error", "told_is_in"]
def nm1 : List PySem.Str := ["is_in_stretch", "told_steps", "end_of_stretch", "left_out", "seen_in", "_law_pot", "_law_take", "_law_of", "_law_cells", "_law_heard", "_law_is_bool", "_law_frac", "_law_plus", "_law_times", "_law_less", "_law_sum", "_law_is_less", "_law_is_exact", "_law_are_refused", "_law_bad_chances", "_law_power", "_law_all_rows", "_law_chance_drawn", "_law_just", "_law_is_in", "_law_is_end_right", "_law_is_one_right", "_law_are_odd_refused", "_law_right"]
def names : List PySem.Str := nm0 ++ nm1
theorem run (w : World) : HandSHeadRun.RunEq R (PySem.W.view R.prog [64]) hk ob 8000 names w := by
  intro os
  kernel_rfl
theorem hini (w : World) (mg : Str → Option Value) (k : PySem.W.Frag) (base : Heap) (D C f cc c' : Addr) (fd : FuncData) (I : InitK PySem.Challenge.rw_orderedahead_k69_whole_sharp_stretches.prog k D f cc c' fd ini.qual ini.params ini.body ini.scope) (hs : mg "super" = none) : (SubK k D C → FnOk PySem.Challenge.rw_orderedahead_k69_whole_sharp_stretches.prog w k mg base (L2.CX PySem.Challenge.rw_orderedahead_k69_whole_sharp_stretches.prog w) 1 f fd ["self", "value"] (spI C)) ∧ Binds k fd ["self", "value"] [] := by
  refine ⟨fun SC => ?_, ?_⟩
  · exact init_ok (n := 0) I ⟨rfl, rfl, rfl, by decide +kernel, by decide +kernel, by decide +kernel, by decide +kernel, by decide +kernel⟩ SC rfl hs rfl rfl rfl (fun L => ⟨_, rfl⟩) (fun L => rfl) (fun L => rfl) (fun L => rfl) (fun L => rfl) (fun L => rfl)
  · have e0 := I.dfl
    obtain ⟨oc, od, dV, kV, doc, pm, an, ct, osl, rfl, _⟩ := I.fn
    obtain rfl : dV = .none := e0
    exact Binds.all fun us hl => match us, hl with | [_, _], _ => rfl
theorem holds (hlaw : ∀ ns : List Int, ns.length ≤ 63 → (∀ k ∈ ns, Builtin.Int.intBits k ≤ 1048576) → callD Pr.dfOf (30 + 1) 47 [scr ns] = some (.ok (.bl true) false [])) : PySem.Challenge.rw_orderedahead_k69_whole_sharp_stretches.Holds := by
  open PySem.W PySem.Calls in
  w_on; o_law
  refine HandSHeadRun.head_any (r := PySem.W.OpenLaw.row PySem.Challenge.rw_orderedahead_k69_whole_sharp_stretches) (q := PySem.W.view (PySem.W.OpenLaw.row PySem.Challenge.rw_orderedahead_k69_whole_sharp_stretches).prog [64]) (H := hk) (ob := ob) (M := 8000) (loose := names) (d := HandSHeadRun.topDef (PySem.W.OpenLaw.row PySem.Challenge.rw_orderedahead_k69_whole_sharp_stretches).prog 64) (kwd := []) ob_eq
    (by kernel_rfl) (fun s => by kernel_rfl) run (by kernel_rfl) (by kernel_rfl) (by kernel_rfl) (by rfl) (by first | assumption | decide +kernel) (by decide +kernel) ⟨rfl, rfl, rfl, rfl, rfl, by decide +kernel⟩ ?hw ?hc
  case hw => w_witness2
  case hc => exact law_of (l := PySem.Challenge.rw_orderedahead_k69_whole_sharp_stretches) (m := 30) Pr rows ini 47 r_law "script" rfl (by decide) (by kernel_rfl) ⟨rfl, by decide, by decide⟩ rfl rows_ok lams_ok rfl rfl rfl (by kernel_rfl) hroot (by kernel_rfl) (by decide +kernel) hini hlaw
end Dn.K69
end

section
set_option linter.all false
set_option autoImplicit false
set_option maxRecDepth 100000
set_option Elab.async false
/-! DpA: loops of the small language; fractions in lowest terms. -/
namespace Dn
open PySem PySem.Spec PyProof.Rows L2

/-! ### loops -/
theorem forL_inv {step : D → Env → SRes} : ∀ {xs : List D} (f : Nat → Env) (k : Nat), (∀ i x, xs[i]? = some x → step x (f (k + i)) = .nx (f (k + i + 1))) → forL step xs (f k) = .nx (f (k + xs.length))
  | [], f, k, h => rfl
  | x :: xs, f, k, h => by
    unfold forL
    rw [show f k = f (k + 0) from rfl, h 0 x rfl]
    show forL step xs (f (k + 0 + 1)) = _
    have := forL_inv (xs := xs) f (k + 1) fun i y e => by
      have := h (i + 1) y (by simpa using e)
      rw [show k + (i + 1) = k + 1 + i by omega] at this
      exact this
    rw [show k + 0 + 1 = k + 1 by omega, this, List.length_cons, show k + 1 + xs.length = k + (xs.length + 1) by omega]
theorem forL_for {step : D → Env → SRes} {xs : List D} (f : Nat → Env) (h : ∀ i x, xs[i]? = some x → step x (f i) = .nx (f (i + 1))) : forL step xs (f 0) = .nx (f xs.length) := by
  have := forL_inv (step := step) (xs := xs) f 0 fun i x e => by rw [Nat.zero_add]; exact h i x e
  rwa [Nat.zero_add] at this
theorem compL_inv {step : D → Env → Res (Option D)} : ∀ {xs acc : List D} (f : Nat → Env) (g : Nat → Option D) (k : Nat), (∀ i x, xs[i]? = some x → step x (f (k + i)) = .ok (g (k + i)) (f (k + i + 1))) → acc.length + xs.length ≤ 16000000 →
    compL step xs acc (f k) = .ok (acc.reverse ++ (List.range' k xs.length).filterMap g) (f (k + xs.length))
  | [], acc, f, g, k, h, hl => by unfold compL; simp
  | x :: xs, acc, f, g, k, h, hl => by
    unfold compL
    rw [show f k = f (k + 0) from rfl, h 0 x rfl]
    rw [List.length_cons] at hl
    have key := fun (acc' : List D) (hl' : acc'.length + xs.length ≤ 16000000) => compL_inv (xs := xs) (acc := acc') f g (k + 1) (fun i y e => by
      have := h (i + 1) y (by simpa using e)
      rw [show k + (i + 1) = k + 1 + i by omega] at this
      exact this) hl'
    have e0 : (List.range' k (xs.length + 1)).filterMap g = (match g k with
      | some d => d :: (List.range' (k + 1) xs.length).filterMap g
      | none => (List.range' (k + 1) xs.length).filterMap g) := by
      rw [List.range'_succ, List.filterMap_cons]
      cases g k <;> rfl
    rw [List.length_cons, e0, show k + (xs.length + 1) = k + 1 + xs.length by omega]
    have eg : g (k + 0) = g k := rfl
    rw [eg]
    cases g k with
    | none => exact key acc (by omega)
    | some d =>
      dsimp only
      rw [if_pos (show okLen acc.length = true from Nat.ble_eq_true_of_le (by omega))]
      show compL step xs (d :: acc) (f (k + 1)) = _
      rw [key (d :: acc) (by rw [List.length_cons]; omega)]
      simp
theorem compL_for {step : D → Env → Res (Option D)} {xs : List D} (f : Nat → Env) (g : Nat → Option D) (h : ∀ i x, xs[i]? = some x → step x (f i) = .ok (g i) (f (i + 1))) (hl : xs.length ≤ 16000000) :
    compL step xs [] (f 0) = .ok ((List.range xs.length).filterMap g) (f xs.length) := by
  have := compL_inv (step := step) (xs := xs) (acc := []) f g 0 (fun i x e => by rw [Nat.zero_add]; exact h i x e) (by simpa using hl)
  rw [Nat.zero_add] at this
  rw [this, List.range_eq_range']
  rfl
theorem compL_fil {step : D → Env → Res (Option D)} {xs : List D} {Γ : Env} (g : D → Option D) (h : ∀ x ∈ xs, step x Γ = .ok (g x) Γ) (hl : xs.length ≤ 16000000) : compL step xs [] Γ = .ok (xs.filterMap g) Γ := by
  have aux : ∀ (xs acc : List D), (∀ x ∈ xs, step x Γ = .ok (g x) Γ) → acc.length + xs.length ≤ 16000000 → compL step xs acc Γ = .ok (acc.reverse ++ xs.filterMap g) Γ := by
    intro xs
    induction xs with
    | nil => intro acc _ _; unfold compL; simp
    | cons x xs ih =>
      intro acc h hl
      unfold compL
      rw [h x List.mem_cons_self]
      rw [List.length_cons] at hl
      cases e : g x with
      | none =>
        dsimp only
        rw [ih acc (fun y hy => h y (List.mem_cons_of_mem _ hy)) (by omega), List.filterMap_cons, e]
      | some d =>
        dsimp only
        rw [if_pos (show okLen acc.length = true from Nat.ble_eq_true_of_le (by omega)), ih (d :: acc) (fun y hy => h y (List.mem_cons_of_mem _ hy)) (by rw [List.length_cons]; omega), List.filterMap_cons, e]
        simp
  simpa using aux xs [] h (by simpa using hl)

/-- all items alike, the slots as they were -/
theorem compL_map {step : D → Env → Res (Option D)} {xs : List D} {Γ : Env} (g : D → D) (h : ∀ x ∈ xs, step x Γ = .ok (some (g x)) Γ) (hl : xs.length ≤ 16000000) : compL step xs [] Γ = .ok (xs.map g) Γ := by
  rw [compL_fil (fun x => some (g x)) h hl, List.filterMap_eq_map' (f := g)]
/-! ### lists of ints -/
theorem intL_map : ∀ l : List Int, intL (l.map .int) = some l
  | [] => rfl
  | i :: l => by rw [List.map_cons]; unfold intL; rw [intL_map l]; rfl
theorem bolL_map : ∀ l : List Bool, bolL (l.map .bl) = some l
  | [] => rfl
  | i :: l => by rw [List.map_cons]; unfold bolL; rw [bolL_map l]; rfl
theorem sIx_nat {n k d : Nat} : HT.sIx n d (some (k : Int)) = min k n := by
  show (if (k : Int) < 0 then ((k : Int) + n).toNat else min (k : Int).toNat n) = _
  rw [if_neg (by omega), Int.toNat_natCast]
theorem cut_from {xs : List D} {s : Nat} : cutD xs (some (s : Int)) none = xs.drop s := by
  unfold cutD
  rw [sIx_nat]
  show (xs.drop (min s xs.length)).take (xs.length - min s xs.length) = _
  by_cases h : s ≤ xs.length
  · rw [Nat.min_eq_left h, List.take_of_length_le (by simp)]
  · rw [Nat.min_eq_right (by omega), List.drop_of_length_le (Nat.le_refl _), List.drop_of_length_le (by omega)]
    simp
theorem cut_to {xs : List D} {s : Nat} : cutD xs none (some (s : Int)) = xs.take s := by
  unfold cutD
  rw [sIx_nat]
  show (xs.drop 0).take (min s xs.length - 0) = _
  rw [List.drop_zero, Nat.sub_zero]
  by_cases h : s ≤ xs.length
  · rw [Nat.min_eq_left h]
  · rw [Nat.min_eq_right (by omega), List.take_of_length_le (Nat.le_refl _), List.take_of_length_le (by omega)]
theorem atI_nat {xs : List D} {i : Nat} (h : i < xs.length) : L2.atI xs (i : Int) = xs[i]? := by
  unfold L2.atI L2.ixN
  rw [if_pos (by omega)]
  simp [h]
theorem okLen_of {n : Nat} (h : n ≤ 16000000) : okLen n = true := Nat.ble_eq_true_of_le h
theorem okl0 : okLen (0) = true := rfl
theorem okl1 : okLen (0 + 1) = true := rfl
theorem okl2 : okLen (0 + 1 + 1) = true := rfl
theorem okl3 : okLen (0 + 1 + 1 + 1) = true := rfl
theorem okl4 : okLen (0 + 1 + 1 + 1 + 1) = true := rfl
theorem okl5 : okLen (0 + 1 + 1 + 1 + 1 + 1) = true := rfl
theorem okl6 : okLen (0 + 1 + 1 + 1 + 1 + 1 + 1) = true := rfl
theorem okl7 : okLen (0 + 1 + 1 + 1 + 1 + 1 + 1 + 1) = true := rfl
theorem okl8 : okLen (0 + 1 + 1 + 1 + 1 + 1 + 1 + 1 + 1) = true := rfl
theorem inR_of {i : Int} (h1 : -4611686018427387904 ≤ i) (h2 : i < 4611686018427387904) : inR i = true := decide_eq_true ⟨h1, h2⟩
theorem inR_nat {n : Nat} (h : n ≤ 16000000) : inR (n : Int) = true := by
  unfold inR
  apply decide_eq_true
  constructor
  · exact Int.le_trans (by decide : -(2 ^ 62 : Int) ≤ 0) (Int.natCast_nonneg n)
  · exact Int.lt_of_le_of_lt (Int.ofNat_le.mpr h) (by decide)
theorem log2_lt {n k : Nat} (h : n < 2 ^ k) (hk : 0 < k) : n.log2 < k := by
  by_cases h0 : n = 0
  · rw [h0]; simpa using hk
  · exact (Nat.log2_lt h0).mpr h
theorem fitMul_of {i j : Int} (h1 : i.natAbs < 2 ^ 400000) (h2 : j.natAbs < 2 ^ 400000) : fitMul i j = true := by
  unfold fitMul
  have a := log2_lt h1 (by decide)
  have b := log2_lt h2 (by decide)
  exact decide_eq_true (show i.natAbs.log2 + j.natAbs.log2 < 1000000 by omega) |> fun h => by
    rw [Nat.blt_eq]
    exact of_decide_eq_true h
theorem divD_of {i j : Int} (h : 0 < j) (hb : j.natAbs < 2 ^ 8000) : divD i j = some (i / j) := by
  unfold divD
  rw [if_pos ⟨h, Nat.lt_of_lt_of_le (log2_lt hb (by decide)) (by decide)⟩]
theorem modD_of {i j : Int} (h : 0 < j) : modD i j = some (i % j) := by unfold modD; rw [if_pos h]

/-! ### fractions -/
def nfP (x d : Int) : Int × Int := (x / (Int.gcd x d : Int), d / (Int.gcd x d : Int))
def Q (x d : Int) : D := .tup [.int (nfP x d).1, .int (nfP x d).2]
theorem nf_spec {x d : Int} (hd : 0 < d) : 0 < (nfP x d).2 ∧ (nfP x d).1 * d = x * (nfP x d).2 ∧ Int.gcd (nfP x d).1 (nfP x d).2 = 1 ∧ (nfP x d).2 ≤ d ∧ (nfP x d).1.natAbs ≤ x.natAbs := by
  have hg : 0 < Int.gcd x d := by
    rw [Int.gcd_pos_iff]; right; omega
  have hg' : (0 : Int) < (Int.gcd x d : Int) := by exact_mod_cast hg
  have h1 : x / (Int.gcd x d : Int) * (Int.gcd x d : Int) = x := Int.ediv_mul_cancel (Int.gcd_dvd_left ..)
  have h2 : d / (Int.gcd x d : Int) * (Int.gcd x d : Int) = d := Int.ediv_mul_cancel (Int.gcd_dvd_right ..)
  unfold nfP
  dsimp only
  refine ⟨?_, ?_, ?_, ?_, ?_⟩
  · apply Int.pos_of_mul_pos_left (b := (Int.gcd x d : Int)) <;> first | (rw [h2]; exact hd) | exact hg'
  · conv => lhs; rw [← h2]
    conv => rhs; rw [← h1]
    rw [h1, h2]
    generalize x / (Int.gcd x d : Int) = p at *
    generalize d / (Int.gcd x d : Int) = q at *
    generalize (Int.gcd x d : Int) = g at *
    rw [← h1, ← h2]
    grind
  · exact Int.gcd_ediv_gcd_ediv_gcd (by omega)
  · exact Int.ediv_le_self _ (by omega)
  · rw [Int.natAbs_ediv_of_dvd (Int.gcd_dvd_left ..)]
    exact Nat.div_le_self ..
end Dn
end

section
set_option linter.all false
set_option autoImplicit false
set_option maxRecDepth 100000
set_option Elab.async false
/-! DpB: steps of bodies; Euclid's loop; fractions' algebra. -/
namespace Dn
open PySem PySem.Spec PyProof.Rows L2
section
variable {cf : CallF} {f : Df} {ds : List D} {Γ Γ0 Γ1 Γ' : Env} {d : D} {fr : Bool} {o : List D} {a : S} {r : Ss} {c : Str}
theorem run_rt (hm : f.mkr = false) (hi : (inSl f.modes ds).map (fun Γ => Γ ++ List.replicate (f.slots - f.np) .no) = some Γ0) (hb : evSs cf f.body Γ0 = .rt d fr Γ') (ho : outs f.modes Γ' = some o) : runDf cf f ds = some (.ok d fr o) := by
  obtain ⟨Γ, e1, rfl⟩ := Option.map_eq_some_iff.mp hi
  unfold runDf runCore
  rw [hm, if_neg Bool.false_ne_true, e1]
  dsimp only
  rw [hb]
  dsimp only
  rw [ho]
  rfl
theorem run_nx (hm : f.mkr = false) (hi : (inSl f.modes ds).map (fun Γ => Γ ++ List.replicate (f.slots - f.np) .no) = some Γ0) (hb : evSs cf f.body Γ0 = .nx Γ') (ho : outs f.modes Γ' = some o) : runDf cf f ds = some (.ok .non false o) := by
  obtain ⟨Γ, e1, rfl⟩ := Option.map_eq_some_iff.mp hi
  unfold runDf runCore
  rw [hm, if_neg Bool.false_ne_true, e1]
  dsimp only
  rw [hb]
  dsimp only
  rw [ho]
  rfl
/-- of one that makes lambdas -/
theorem run_rtY (hm : f.mkr = true) (hy : noYs ds = true) (hi : (inSl f.modes ds).map (fun Γ => Γ ++ List.replicate (f.slots - f.np) .no) = some Γ0) (hb : evSs cf f.body Γ0 = .rt d fr Γ') (ho : outs f.modes Γ' = some o) (hd : noY d = true) (hos : noYs o = true) : runDf cf f ds = some (.ok d fr o) := by
  obtain ⟨Γ, e1, rfl⟩ := Option.map_eq_some_iff.mp hi
  unfold runDf runCore
  rw [hm, if_pos rfl, if_pos hy, e1]
  dsimp only
  rw [hb]
  dsimp only
  rw [ho]
  show (if (noY d && noYs o) = true then _ else _) = _
  rw [hd, hos]
  rfl
theorem ss_nx (h : evS cf a Γ = .nx Γ1) : evSs cf (.cons a r) Γ = evSs cf r Γ1 := by
  rw [evSs, h]
theorem ss_rt (h : evS cf a Γ = .rt d fr Γ1) : evSs cf (.cons a r) Γ = .rt d fr Γ1 := by
  rw [evSs, h]
theorem ss_ex (h : evS cf a Γ = .ex c d Γ1) : evSs cf (.cons a r) Γ = .ex c d Γ1 := by
  rw [evSs, h]
theorem ss_ct (h : evS cf a Γ = .ct Γ1) : evSs cf (.cons a r) Γ = .ct Γ1 := by
  rw [evSs, h]
theorem ss_end : evSs cf .nil Γ = .nx Γ := rfl
theorem e_for {g : Tg} {it : I} {b : Ss} {xs : List D} (hi : evI cf it Γ = .ok xs Γ1) (h : forL (fun x Γ => match bind1 Γ g x with
      | some Γ' => evSs cf b Γ'
      | none => .no) xs Γ1 = .nx Γ') : evS cf (.for_ g it b) Γ = .nx Γ' := by
  rw [evS, hi]
  exact h
theorem e_whl {t : T} {b : Ss} (h : whlL (fun Γ => evT cf t Γ) (fun Γ => evSs cf b Γ) fuelW Γ = .nx Γ') : evS cf (.whl t b) Γ = .nx Γ' := by
  rw [evS]
  exact h
theorem e_cmp1 {elt : E} {tg : Tg} {it : I} {t : Ts} {own : List Nat} {n : Nat} {xs l : List D} {Γ2 : Env} (hi : evI cf it Γ = .ok xs Γ1) (ho : (noOwn Γ1 own && Nat.beq Γ1.length n) = true) (h : compL (fun x Γ => match bind1 Γ tg x with
        | some Γ' => (evTs cf t Γ').bind fun b Γ2 => if b then (evE cf elt Γ2).bind fun r Γ3 => .ok (some r.1) (wipeE Γ3 own) else .ok none (wipeE Γ2 own)
        | none => .no) xs [] (wipeE Γ1 own) = .ok l Γ2) : evE cf (.cmp1 elt tg it t own n) Γ = .ok (.lst l, true) (backE Γ1 Γ2 own) := by
  rw [evE, hi]
  show (if (noOwn Γ1 own && Nat.beq Γ1.length n) = true then _ else _) = _
  rw [if_pos ho]
  exact (congrArg (fun z => Res.bind z fun l Γ2 => Res.ok (D.lst l, true) (backE Γ1 Γ2 own)) h).trans rfl
theorem e_asg {g : Tg} {e : E} (h : evE cf e Γ = .ok (d, fr) Γ1) (hb : bindF Γ1 g d fr = some Γ') : evS cf (.asg g e) Γ = .nx Γ' := by
  rw [evS, h]
  dsimp only
  rw [hb]
theorem e_asgN {i : Nat} {e : E} (h : evE cf e Γ = .ok (d, fr) Γ1) (hb : store Γ1 i d fr = some Γ') : evS cf (.asg (.nm i) e) Γ = .nx Γ' := e_asg h hb
theorem e_ret {e : E} (h : evE cf e Γ = .ok (d, fr) Γ1) : evS cf (.ret e) Γ = .rt d fr Γ1 := by
  rw [evS, h]
theorem s_iteT {t : T} {a b : Ss} (h : evT cf t Γ = .ok true Γ1) : evS cf (.ite t a b) Γ = evSs cf a Γ1 := by
  rw [evS, h]
theorem s_iteF {t : T} {a b : Ss} (h : evT cf t Γ = .ok false Γ1) : evS cf (.ite t a b) Γ = evSs cf b Γ1 := by
  rw [evS, h]
end
/-! ### Euclid -/
theorem gcd_loop {cf : CallF} {x y : D} : ∀ (k a b : Nat), b < 2 ^ k → ∀ fuel, 2 * k + 1 ≤ fuel →
    whlL (fun Γ => evT cf (.val (.e (.cmp .ne (.pek 3) (.e (.cst (.int 0)))))) Γ) (fun Γ => evSs cf (.cons (.par [2, 3] (.cons (.var 3) (.cons (.bin .mod (.pek 2) (.pek 3)) .nil))) .nil) Γ) fuel [.sh x, .sh y, .sh (.int a), .sh (.int b), .no] = .nx [.sh x, .sh y, .sh (.int (Nat.gcd a b)), .sh (.int 0), .no] := by
  have tst : ∀ (a b : Nat), evT cf (.val (.e (.cmp .ne (.pek 3) (.e (.cst (.int 0)))))) [.sh x, .sh y, .sh (.int a), .sh (.int b), .no] = .ok (!decide (b = 0)) [.sh x, .sh y, .sh (.int a), .sh (.int b), .no] := fun a b => by
    have : eqD (.int b) (.int 0) = some (decide (b = 0)) := by
      show some (PyData.eqv (.int b) (.int 0)) = _
      congr 1
      show decide ((b : Int) = 0) = _
      simp
    simp only [okl0, okl1, okl2, okl3, okl4, okl5, okl6, okl7, okl8, runDf, runCore, inSl, evSs, evS, evE, evP, evT, evTs, evO, evEs, evAs, evI, evX, Res.bind, liftO, Hd.get, getA, getO, Sl.get?, store, bindF, bind1, bindL, storeL, bopD, copD, truD, b1D, b2D, idxD, slcD, augD, putC, isBox, isL, isC, getAll, Ah.get, refsOf, valsOf, putBack, outs, isX, isiD, optI, List.getElem?_cons_zero, List.getElem?_cons_succ, List.getElem?_nil, List.set_cons_zero, List.set_cons_succ, List.map_cons, List.map_nil, Option.map_some, Option.bind_some, Option.isSome_some, List.cons_append, List.nil_append, List.replicate_succ, List.replicate_zero, List.length_cons, List.length_nil, if_true, if_false, Bool.false_eq_true, reduceIte, ite_true, ite_false, this]
  have stp : ∀ (a b : Nat), 0 < b → evSs cf (.cons (.par [2, 3] (.cons (.var 3) (.cons (.bin .mod (.pek 2) (.pek 3)) .nil))) .nil) [.sh x, .sh y, .sh (.int a), .sh (.int b), .no] = .nx [.sh x, .sh y, .sh (.int b), .sh (.int ((a % b : Nat) : Int)), .no] := fun a b hb => by
    have : modD (a : Int) (b : Int) = some ((a % b : Nat) : Int) := by rw [modD_of (by omega)]; rfl
    simp only [okl0, okl1, okl2, okl3, okl4, okl5, okl6, okl7, okl8, runDf, runCore, inSl, evSs, evS, evE, evP, evT, evTs, evO, evEs, evAs, evI, evX, Res.bind, liftO, Hd.get, getA, getO, Sl.get?, store, bindF, bind1, bindL, storeL, bopD, copD, truD, b1D, b2D, idxD, slcD, augD, putC, isBox, isL, isC, getAll, Ah.get, refsOf, valsOf, putBack, outs, isX, isiD, optI, List.getElem?_cons_zero, List.getElem?_cons_succ, List.getElem?_nil, List.set_cons_zero, List.set_cons_succ, List.map_cons, List.map_nil, Option.map_some, Option.bind_some, Option.isSome_some, List.cons_append, List.nil_append, List.replicate_succ, List.replicate_zero, List.length_cons, List.length_nil, if_true, if_false, Bool.false_eq_true, reduceIte, ite_true, ite_false, this]
  have one : ∀ (a b fuel : Nat), 0 < b → whlL (fun Γ => evT cf (.val (.e (.cmp .ne (.pek 3) (.e (.cst (.int 0)))))) Γ) (fun Γ => evSs cf (.cons (.par [2, 3] (.cons (.var 3) (.cons (.bin .mod (.pek 2) (.pek 3)) .nil))) .nil) Γ) (fuel + 1) [.sh x, .sh y, .sh (.int a), .sh (.int b), .no] =
      whlL (fun Γ => evT cf (.val (.e (.cmp .ne (.pek 3) (.e (.cst (.int 0)))))) Γ) (fun Γ => evSs cf (.cons (.par [2, 3] (.cons (.var 3) (.cons (.bin .mod (.pek 2) (.pek 3)) .nil))) .nil) Γ) fuel [.sh x, .sh y, .sh (.int b), .sh (.int ((a % b : Nat) : Int)), .no] := fun a b fuel hb => by
    conv => lhs; unfold whlL
    rw [tst]
    rw [show (!decide (b = 0)) = true by simp; omega]
    dsimp only
    rw [stp a b hb]
  have zero : ∀ (a fuel : Nat), whlL (fun Γ => evT cf (.val (.e (.cmp .ne (.pek 3) (.e (.cst (.int 0)))))) Γ) (fun Γ => evSs cf (.cons (.par [2, 3] (.cons (.var 3) (.cons (.bin .mod (.pek 2) (.pek 3)) .nil))) .nil) Γ) (fuel + 1) [.sh x, .sh y, .sh (.int a), .sh (.int ((0 : Nat) : Int)), .no] = .nx [.sh x, .sh y, .sh (.int a), .sh (.int 0), .no] := fun a fuel => by
    unfold whlL
    rw [tst a 0]
    rfl
  intro k
  induction k with
  | zero =>
    intro a b hb fuel hf
    obtain rfl : b = 0 := by simpa using hb
    obtain ⟨f, rfl⟩ : ∃ f, fuel = f + 1 := ⟨fuel - 1, by omega⟩
    rw [zero, Nat.gcd_zero_right]
  | succ k ih =>
    intro a b hb fuel hf
    by_cases h0 : b = 0
    · subst h0
      obtain ⟨f, rfl⟩ : ∃ f, fuel = f + 1 := ⟨fuel - 1, by omega⟩
      rw [zero, Nat.gcd_zero_right]
    · obtain ⟨f, rfl⟩ : ∃ f, fuel = f + 1 := ⟨fuel - 1, by omega⟩
      rw [one a b f (by omega)]
      by_cases h1 : a % b = 0
      · obtain ⟨f2, rfl⟩ : ∃ f2, f = f2 + 1 := ⟨f - 1, by omega⟩
        rw [h1, zero, Nat.gcd_comm a b, Nat.gcd_rec b a, h1, Nat.gcd_zero_left]
      · obtain ⟨f2, rfl⟩ : ∃ f2, f = f2 + 1 := ⟨f - 1, by omega⟩
        rw [one b (a % b) f2 (by omega), ih (a % b) (b % (a % b)) ?_ f2 (by omega)]
        · rw [Nat.gcd_comm a b, Nat.gcd_rec b a, Nat.gcd_rec (a % b) b, Nat.gcd_comm]
        · have h2 := Nat.mod_lt a (show 0 < b by omega)
          have h3 := Nat.mod_lt b (show 0 < a % b by omega)
          have h4 := Nat.mod_add_div b (a % b)
          have h5 : 1 ≤ b / (a % b) := (Nat.one_le_div_iff (by omega)).mpr (by omega)
          have h6 : a % b ≤ (a % b) * (b / (a % b)) := Nat.le_mul_of_pos_right _ (by omega)
          rw [Nat.pow_succ] at hb
          omega
theorem gcd_whl {cf : CallF} {x y : D} {a b : Nat} (hb : b < 2 ^ 400000) : evS cf (.whl (.val (.e (.cmp .ne (.pek 3) (.e (.cst (.int 0)))))) (.cons (.par [2, 3] (.cons (.var 3) (.cons (.bin .mod (.pek 2) (.pek 3)) .nil))) .nil)) [.sh x, .sh y, .sh (.int a), .sh (.int b), .no] = .nx [.sh x, .sh y, .sh (.int (Nat.gcd a b)), .sh (.int 0), .no] :=
  e_whl (gcd_loop 400000 a b hb fuelW (by decide))
/-! ### algebra -/
theorem dvd_cop {q p r : Int} (h : q ∣ p * r) (g : Int.gcd p q = 1) : q ∣ r := by
  have h1 : q.natAbs ∣ p.natAbs * r.natAbs := by rw [← Int.natAbs_mul]; exact Int.natAbs_dvd_natAbs.mpr h
  have h2 : Nat.Coprime q.natAbs p.natAbs := by rw [Nat.coprime_comm]; exact g
  exact Int.natAbs_dvd_natAbs.mp (h2.dvd_of_dvd_mul_left h1)
theorem red_uniq {p q p' q' : Int} (h : p * q' = p' * q) (g : Int.gcd p q = 1) (g' : Int.gcd p' q' = 1) (hq : 0 < q) (hq' : 0 < q') : p = p' ∧ q = q' := by
  have d1 : q ∣ q' := by
    have : q ∣ p * q' := ⟨p', by rw [h, Int.mul_comm]⟩
    exact dvd_cop this g
  have d2 : q' ∣ q := by
    have : q' ∣ p' * q := ⟨p, by rw [← h, Int.mul_comm]⟩
    exact dvd_cop this g'
  have e : q = q' := Int.le_antisymm (Int.le_of_dvd hq' d1) (Int.le_of_dvd hq d2)
  subst e
  exact ⟨Int.eq_of_mul_eq_mul_right (by omega) h, rfl⟩
theorem nf_eq {x d x' d' : Int} (hd : 0 < d) (hd' : 0 < d') (h : x * d' = x' * d) : nfP x d = nfP x' d' := by
  obtain ⟨a1, a2, a3, _⟩ := nf_spec (x := x) hd
  obtain ⟨b1, b2, b3, _⟩ := nf_spec (x := x') hd'
  have key : (nfP x d).1 * (nfP x' d').2 = (nfP x' d').1 * (nfP x d).2 := by
    generalize (nfP x d).1 = p at *
    generalize (nfP x d).2 = q at *
    generalize (nfP x' d').1 = p' at *
    generalize (nfP x' d').2 = q' at *
    have : p * q' * (d * d') = p' * q * (d * d') := by
      have e1 : p * q' * (d * d') = (p * d) * (q' * d') := by grind
      have e2 : p' * q * (d * d') = (p' * d') * (q * d) := by grind
      rw [e1, e2, a2, b2]
      have e3 : x * q * (q' * d') = (x * d') * (q * q') := by grind
      have e4 : x' * q' * (q * d) = (x' * d) * (q * q') := by grind
      rw [e3, e4, h]
    exact Int.eq_of_mul_eq_mul_right (by have := Int.mul_pos hd hd'; omega) this
  obtain ⟨e1, e2⟩ := red_uniq key a3 b3 a1 b1
  exact Prod.ext e1 e2
theorem nf_cross {x d x' d' : Int} (hd : 0 < d) (hd' : 0 < d') (h : nfP x d = nfP x' d') : x * d' = x' * d := by
  obtain ⟨a1, a2, a3, _⟩ := nf_spec (x := x) hd
  obtain ⟨b1, b2, b3, _⟩ := nf_spec (x := x') hd'
  rw [← h] at b2 b1
  generalize (nfP x d).1 = p at *
  generalize (nfP x d).2 = q at *
  have : x * d' * q = x' * d * q := by
    have e1 : x * d' * q = (x * q) * d' := by grind
    have e2 : x' * d * q = (x' * q) * d := by grind
    rw [e1, e2, ← a2, ← b2]
    grind
  exact Int.eq_of_mul_eq_mul_right (by omega) this
theorem Q_eq {x d x' d' : Int} (hd : 0 < d) (hd' : 0 < d') (h : x * d' = x' * d) : Q x d = Q x' d' := by unfold Q; rw [nf_eq hd hd' h]
/-! ### loops, once more -/
section
variable {cf : CallF} {Γ Γ0 Γ1 Γ2 : Env} {g : Tg} {it : I} {b : Ss} {elt : E} {own : List Nat} {n : Nat} {xs : List D} {t : T}
theorem for_seq (hi : evI cf it Γ = .ok xs Γ1) (f : Nat → Env) (h0 : f 0 = Γ1) (hs : ∀ i x, xs[i]? = some x → ∃ Γ', bind1 (f i) g x = some Γ' ∧ (evSs cf b Γ' = .nx (f (i + 1)) ∨ evSs cf b Γ' = .ct (f (i + 1)))) : evS cf (.for_ g it b) Γ = .nx (f xs.length) := by
  refine e_for hi ?_
  rw [← h0]
  have aux : ∀ (xs : List D) (k : Nat), (∀ i x, xs[i]? = some x → ∃ Γ', bind1 (f (k + i)) g x = some Γ' ∧ (evSs cf b Γ' = .nx (f (k + i + 1)) ∨ evSs cf b Γ' = .ct (f (k + i + 1)))) → forL (fun x Γ => match bind1 Γ g x with
      | some Γ' => evSs cf b Γ'
      | none => .no) xs (f k) = .nx (f (k + xs.length)) := by
    intro xs
    induction xs with
    | nil => intro k _; rfl
    | cons x xs ih =>
      intro k h
      obtain ⟨Γ', e1, e2⟩ := h 0 x rfl
      have e1 : bind1 (f k) g x = some Γ' := e1
      have ih := ih (k + 1) fun i y e => by
        have := h (i + 1) y (by simpa using e)
        rw [show k + (i + 1) = k + 1 + i by omega] at this
        exact this
      rw [show k + 1 + xs.length = k + (xs.length + 1) by omega] at ih
      unfold forL
      rw [e1, List.length_cons]
      dsimp only
      rcases e2 with e2 | e2
      · rw [e2]; exact ih
      · rw [e2]; exact ih
  have := aux xs 0 fun i x e => by rw [Nat.zero_add]; exact hs i x e
  rwa [Nat.zero_add] at this
theorem rng_get {k i : Nat} {x : D} (h : (rangeD 0 (k : Int))[i]? = some x) : i < k ∧ x = .int i := by
  have hl : i < (rangeD 0 (k : Int)).length := (List.getElem?_eq_some_iff.mp h).1
  rw [rangeD_len, Int.sub_zero, Int.toNat_natCast] at hl
  rw [rangeD_get (by rw [Int.sub_zero, Int.toNat_natCast]; exact hl)] at h
  cases h
  exact ⟨hl, by rw [Int.zero_add]⟩
theorem rng_eq (k : Nat) : rangeD 0 (k : Int) = (List.range k).map fun i => .int i := by
  unfold rangeD
  rw [Int.sub_zero, Int.toNat_natCast]
  exact List.map_congr_left fun i _ => by rw [Int.zero_add]
theorem ev_rng1 {p : P} {x : Hd} {k : Nat} (h : evP cf p Γ = .ok x Γ1) (hx : x.get Γ1 = some (.int (k : Int))) (hk : k ≤ 16000000) : evI cf (.rng1 p) Γ = .ok (rangeD 0 (k : Int)) Γ1 := by
  rw [evI, h]
  show (match x.get Γ1 with
    | some (.int i) => if inR i then Res.ok (rangeD 0 i) Γ1 else .no
    | _ => .no) = _
  rw [hx]
  dsimp only
  rw [if_pos (inR_nat hk)]
theorem for_rng {k : Nat} (hi : evI cf it Γ = .ok (rangeD 0 (k : Int)) Γ1) (f : Nat → Env) (h0 : f 0 = Γ1) (hs : ∀ i, i < k → ∃ Γ', bind1 (f i) g (.int i) = some Γ' ∧ (evSs cf b Γ' = .nx (f (i + 1)) ∨ evSs cf b Γ' = .ct (f (i + 1)))) : evS cf (.for_ g it b) Γ = .nx (f k) := by
  have := for_seq (g := g) (b := b) hi f h0 fun i x e => by
    obtain ⟨h1, rfl⟩ := rng_get e
    exact hs i h1
  rwa [rangeD_len, Int.sub_zero, Int.toNat_natCast] at this
theorem cmp_map (hi : evI cf it Γ = .ok xs Γ1) (ho : (noOwn Γ1 own && Nat.beq Γ1.length n) = true) (f : D → D) (hl : xs.length ≤ 16000000) (hb : backE Γ1 (wipeE Γ1 own) own = Γ2)
    (h : ∀ x ∈ xs, ∃ Γ' fr Γ3, bind1 (wipeE Γ1 own) g x = some Γ' ∧ evE cf elt Γ' = .ok (f x, fr) Γ3 ∧ wipeE Γ3 own = wipeE Γ1 own) : evE cf (.cmp1 elt g it .nil own n) Γ = .ok (.lst (xs.map f), true) Γ2 := by
  rw [← hb]
  refine e_cmp1 hi ho (compL_map f (fun x hx => ?_) hl)
  obtain ⟨Γ', fr, Γ3, e1, e2, e3⟩ := h x hx
  rw [e1]
  show (evE cf elt Γ').bind _ = _
  rw [e2]
  show Res.ok _ _ = _
  rw [e3]
theorem cmp_fil (hi : evI cf it Γ = .ok xs Γ1) (ho : (noOwn Γ1 own && Nat.beq Γ1.length n) = true) (f : D → Option D) (hl : xs.length ≤ 16000000) (hb : backE Γ1 (wipeE Γ1 own) own = Γ2)
    (h : ∀ x ∈ xs, ∃ Γ' bb Γ3, bind1 (wipeE Γ1 own) g x = some Γ' ∧ evT cf t Γ' = .ok bb Γ3 ∧ (if bb = true then ∃ d fr Γ4, evE cf elt Γ3 = .ok (d, fr) Γ4 ∧ f x = some d ∧ wipeE Γ4 own = wipeE Γ1 own else f x = none ∧ wipeE Γ3 own = wipeE Γ1 own)) : evE cf (.cmp1 elt g it (.one t) own n) Γ = .ok (.lst (xs.filterMap f), true) Γ2 := by
  rw [← hb]
  refine e_cmp1 hi ho (compL_fil f (fun x hx => ?_) hl)
  obtain ⟨Γ', bb, Γ3, e1, e2, e3⟩ := h x hx
  rw [e1]
  show (evT cf t Γ').bind _ = _
  rw [e2]
  cases bb with
  | true =>
    rw [if_pos rfl] at e3
    obtain ⟨d, fr, Γ4, e4, e5, e6⟩ := e3
    show (evE cf elt Γ3).bind _ = _
    rw [e4]
    show Res.ok _ _ = _
    rw [e5, e6]
  | false =>
    rw [if_neg Bool.false_ne_true] at e3
    show Res.ok _ _ = _
    rw [e3.1, e3.2]
end
section
variable {cf : CallF} {Γ Γ1 Γ2 Γ3 : Env} {a b : E} {d e : D} {fr fr' : Bool} {p : P}
theorem ev_tup2 (h1 : evE cf a Γ = .ok (d, fr) Γ1) (h2 : evE cf b Γ1 = .ok (e, fr') Γ2) : evE cf (.tup (.cons a (.cons b .nil))) Γ = .ok (.tup [d, e], false) Γ2 := by
  simp only [okl0, okl1, okl2, okl3, okl4, okl5, okl6, okl7, okl8, runDf, runCore, inSl, evSs, evS, evE, evP, evT, evTs, evO, evEs, evAs, evI, evX, Res.bind, liftO, Hd.get, getA, getO, Sl.get?, store, bindF, bind1, bindL, storeL, bopD, copD, truD, b1D, b2D, idxD, slcD, augD, putC, isBox, isL, isC, getAll, Ah.get, refsOf, valsOf, putBack, outs, isX, isiD, optI, List.getElem?_cons_zero, List.getElem?_cons_succ, List.getElem?_nil, List.set_cons_zero, List.set_cons_succ, List.map_cons, List.map_nil, Option.map_some, Option.bind_some, Option.isSome_some, List.cons_append, List.nil_append, List.replicate_succ, List.replicate_zero, List.length_cons, List.length_nil, if_true, if_false, Bool.false_eq_true, reduceIte, ite_true, ite_false, h1, h2]
theorem ev_P (h1 : evE cf a Γ = .ok (d, fr) Γ1) : evP cf (.e a) Γ = .ok (.v d) Γ1 := by
  rw [evP, h1]
  rfl
theorem atI_last {xs : List D} {x : D} : L2.atI (xs ++ [x]) (-1) = some x := by
  unfold L2.atI L2.ixN
  rw [if_neg (by omega), if_pos (by rw [List.length_append]; simp; omega)]
  have e : ((-1 : Int) + ((xs ++ [x]).length : Int)).toNat = xs.length := by rw [List.length_append]; simp; omega
  rw [e]
  simp
theorem drop_sum (f : Nat → Int) (s n : Nat) (h : s ≤ n) : (((List.range n).map f).drop s).sum = ((List.range n).map f).sum - ((List.range s).map f).sum := by
  have h1 := congrArg List.sum (List.take_append_drop s ((List.range n).map f))
  rw [List.sum_append] at h1
  have h2 : ((List.range n).map f).take s = (List.range s).map f := by
    rw [← List.map_take, List.take_range, Nat.min_eq_left h]
  rw [h2] at h1
  omega
theorem take_sum (f : Nat → Int) (s n : Nat) (h : s ≤ n) : ((List.range n).map f).take s = (List.range s).map f := by
  rw [← List.map_take, List.take_range, Nat.min_eq_left h]
end
section
variable {cf : CallF} {Γ Γ0 Γ1 Γ2 : Env} {g : Tg} {it : I} {b : Ss} {elt : E} {own : List Nat} {n k : Nat} {xs : List D} {t : T}
def natOf : D → Nat
  | .int i => i.toNat
  | _ => 0
theorem map_rng {α : Type} (f : Nat → α) : (rangeD 0 (k : Int)).map (fun x => f (natOf x)) = (List.range k).map f := by
  rw [rng_eq, List.map_map]
  exact List.map_congr_left fun i _ => by simp [natOf]
theorem fil_rng {α : Type} (f : Nat → Option α) : (rangeD 0 (k : Int)).filterMap (fun x => f (natOf x)) = (List.range k).filterMap f := by
  rw [rng_eq, List.filterMap_map]
  congr 1
theorem cmp_rng (hi : evI cf it Γ = .ok (rangeD 0 (k : Int)) Γ1) (ho : (noOwn Γ1 own && Nat.beq Γ1.length n) = true) (f : Nat → D) (hl : k ≤ 16000000) (hb : backE Γ1 (wipeE Γ1 own) own = Γ2)
    (h : ∀ i, i < k → ∃ Γ' fr Γ3, bind1 (wipeE Γ1 own) g (.int i) = some Γ' ∧ evE cf elt Γ' = .ok (f i, fr) Γ3 ∧ wipeE Γ3 own = wipeE Γ1 own) : evE cf (.cmp1 elt g it .nil own n) Γ = .ok (.lst ((List.range k).map f), true) Γ2 := by
  rw [← map_rng f]
  refine cmp_map hi ho _ (by rw [rangeD_len]; omega) hb fun x hx => ?_
  rw [rng_eq] at hx
  obtain ⟨i, hi, rfl⟩ := List.mem_map.mp hx
  obtain ⟨Γ', fr, Γ3, e1, e2, e3⟩ := h i (List.mem_range.mp hi)
  exact ⟨Γ', fr, Γ3, e1, by rw [e2]; simp [natOf], e3⟩
theorem cmp_rngF (hi : evI cf it Γ = .ok (rangeD 0 (k : Int)) Γ1) (ho : (noOwn Γ1 own && Nat.beq Γ1.length n) = true) (f : Nat → Option D) (hl : k ≤ 16000000) (hb : backE Γ1 (wipeE Γ1 own) own = Γ2)
    (h : ∀ i, i < k → ∃ Γ' bb Γ3, bind1 (wipeE Γ1 own) g (.int i) = some Γ' ∧ evT cf t Γ' = .ok bb Γ3 ∧ (if bb = true then ∃ d fr Γ4, evE cf elt Γ3 = .ok (d, fr) Γ4 ∧ f i = some d ∧ wipeE Γ4 own = wipeE Γ1 own else f i = none ∧ wipeE Γ3 own = wipeE Γ1 own)) : evE cf (.cmp1 elt g it (.one t) own n) Γ = .ok (.lst ((List.range k).filterMap f), true) Γ2 := by
  rw [← fil_rng f]
  refine cmp_fil hi ho _ (by rw [rangeD_len]; omega) hb fun x hx => ?_
  rw [rng_eq] at hx
  obtain ⟨i, hi, rfl⟩ := List.mem_map.mp hx
  have e : natOf (.int (i : Int)) = i := by simp [natOf]
  rw [e]
  exact h i (List.mem_range.mp hi)
end
section
variable {cf : CallF} {Γ Γ0 Γ1 Γ2 : Env} {a b : E} {d e r : D} {fr fr' : Bool} {o : Bop}
theorem ev_bl1 {f : B1} (h : evE cf a Γ = .ok (d, fr) Γ1) (hb : b1D f d = some r) : evE cf (.bl1 f (.e a)) Γ = .ok (r, isBox r) Γ1 := by
  rw [evE, evP, h]
  show (liftO (b1D f d) Γ1).bind _ = _
  rw [hb]
  rfl
theorem ev_bin (h : evE cf a Γ = .ok (d, fr) Γ1) (h' : evE cf b Γ1 = .ok (e, fr') Γ2) (hb : bopD o d e = some r) : evE cf (.bin o (.e a) (.e b)) Γ = .ok (r, isBox r) Γ2 := by
  rw [evE, evP, h]
  show ((evP cf (.e b) Γ1).bind fun y Γ2 => match some d, y.get Γ2 with
    | some d, some e => (liftO (bopD o d e) Γ2).bind fun r Γ3 => .ok (r, isBox r) Γ3
    | _, _ => .no) = _
  rw [evP, h']
  show (liftO (bopD o d e) Γ2).bind _ = _
  rw [hb]
  rfl
theorem ev_cal1 {j : Nat} (h : evE cf a Γ = .ok (d, fr) Γ1) (hc : cf j [d] = some (.ok e fr' [])) : evE cf (.cal j (.val a .nil)) Γ = .ok (e, fr') Γ1 := by
  rw [evE, evAs, h]
  show (match getAll Γ1 [.v d] with
    | some ds => if (refsOf [.v d]).Nodup then match cf j ds with
      | some (.ok d fr outs) => (liftO (putBack [.v d] outs Γ1) Γ1).bind fun Γ2 _ => .ok (d, fr) Γ2
      | _ => .no
      else .no
    | none => .no) = _
  show (if (refsOf [.v d]).Nodup then match cf j [d] with
      | some (.ok d fr outs) => (liftO (putBack [.v d] outs Γ1) Γ1).bind fun Γ2 _ => .ok (d, fr) Γ2
      | _ => .no
      else .no) = _
  rw [if_pos (show (refsOf [Ah.v d]).Nodup from List.nodup_nil), hc]
  rfl
end
section
variable {cf : CallF} {Γ Γ0 Γ1 Γ2 : Env} {g : Tg} {it : I} {b : Ss} {elt : E} {own : List Nat} {n k : Nat} {t : T}
theorem compL_ix {step : D → Env → Res (Option D)} {Γ : Env} (h : Nat → D) (f : Nat → Option D) : ∀ (is : List Nat) (acc : List D), (∀ i ∈ is, step (h i) Γ = .ok (f i) Γ) → acc.length + is.length ≤ 16000000 → compL step (is.map h) acc Γ = .ok (acc.reverse ++ is.filterMap f) Γ
  | [], acc, _, _ => by unfold List.map compL; simp
  | x :: xs, acc, hs, hl => by
    rw [List.map_cons]
    unfold compL
    rw [hs x List.mem_cons_self]
    rw [List.length_cons] at hl
    cases e : f x with
    | none =>
      dsimp only
      rw [compL_ix h f xs acc (fun y hy => hs y (List.mem_cons_of_mem _ hy)) (by omega), List.filterMap_cons, e]
    | some d =>
      dsimp only
      rw [if_pos (show okLen acc.length = true from Nat.ble_eq_true_of_le (by omega)), compL_ix h f xs (d :: acc) (fun y hy => hs y (List.mem_cons_of_mem _ hy)) (by rw [List.length_cons]; omega), List.filterMap_cons, e]
      simp
theorem cmp_ixF {h : Nat → D} (hi : evI cf it Γ = .ok ((List.range k).map h) Γ1) (ho : (noOwn Γ1 own && Nat.beq Γ1.length n) = true) (f : Nat → Option D) (hl : k ≤ 16000000) (hb : backE Γ1 (wipeE Γ1 own) own = Γ2)
    (hs : ∀ i, i < k → ∃ Γ' bb Γ3, bind1 (wipeE Γ1 own) g (h i) = some Γ' ∧ evT cf t Γ' = .ok bb Γ3 ∧ (if bb = true then ∃ d fr Γ4, evE cf elt Γ3 = .ok (d, fr) Γ4 ∧ f i = some d ∧ wipeE Γ4 own = wipeE Γ1 own else f i = none ∧ wipeE Γ3 own = wipeE Γ1 own)) : evE cf (.cmp1 elt g it (.one t) own n) Γ = .ok (.lst ((List.range k).filterMap f), true) Γ2 := by
  rw [← hb]
  refine e_cmp1 hi ho ?_
  have := compL_ix (step := fun x Γ => match bind1 Γ g x with
        | some Γ' => (evTs cf (.one t) Γ').bind fun b Γ2 => if b then (evE cf elt Γ2).bind fun r Γ3 => .ok (some r.1) (wipeE Γ3 own) else .ok none (wipeE Γ2 own)
        | none => .no) (Γ := wipeE Γ1 own) h f (List.range k) [] (fun i hi => ?_) (by simpa using hl)
  · simpa using this
  · obtain ⟨Γ', bb, Γ3, e1, e2, e3⟩ := hs i (List.mem_range.mp hi)
    rw [e1]
    show (evT cf t Γ').bind _ = _
    rw [e2]
    cases bb with
    | true =>
      rw [if_pos rfl] at e3
      obtain ⟨d, fr, Γ4, e4, e5, e6⟩ := e3
      show (evE cf elt Γ3).bind _ = _
      rw [e4]
      show Res.ok _ _ = _
      rw [e5, e6]
    | false =>
      rw [if_neg Bool.false_ne_true] at e3
      show Res.ok _ _ = _
      rw [e3.1, e3.2]
theorem cmp_ix {h : Nat → D} (hi : evI cf it Γ = .ok ((List.range k).map h) Γ1) (ho : (noOwn Γ1 own && Nat.beq Γ1.length n) = true) (f : Nat → D) (hl : k ≤ 16000000) (hb : backE Γ1 (wipeE Γ1 own) own = Γ2)
    (hs : ∀ i, i < k → ∃ Γ' fr Γ3, bind1 (wipeE Γ1 own) g (h i) = some Γ' ∧ evE cf elt Γ' = .ok (f i, fr) Γ3 ∧ wipeE Γ3 own = wipeE Γ1 own) : evE cf (.cmp1 elt g it .nil own n) Γ = .ok (.lst ((List.range k).map f), true) Γ2 := by
  rw [← hb]
  refine e_cmp1 hi ho ?_
  have := compL_ix (step := fun x Γ => match bind1 Γ g x with
        | some Γ' => (evTs cf .nil Γ').bind fun b Γ2 => if b then (evE cf elt Γ2).bind fun r Γ3 => .ok (some r.1) (wipeE Γ3 own) else .ok none (wipeE Γ2 own)
        | none => .no) (Γ := wipeE Γ1 own) h (fun i => some (f i)) (List.range k) [] (fun i hi => ?_) (by simpa using hl)
  · rw [List.filterMap_eq_map' (f := f)] at this
    simpa using this
  · obtain ⟨Γ', fr, Γ3, e1, e2, e3⟩ := hs i (List.mem_range.mp hi)
    rw [e1]
    show (evE cf elt Γ').bind _ = _
    rw [e2]
    show Res.ok _ _ = _
    rw [e3]
theorem enum_map (h : Nat → D) (k : Nat) : enumFrom 0 ((List.range k).map h) = (List.range k).map fun i => .tup [.int i, h i] := by
  have aux : ∀ (l : List D) (n : Nat), enumFrom n l = (List.range l.length).map fun i => .tup [.int ((n + i : Nat) : Int), l.getD i .non] := by
    intro l
    induction l with
    | nil => intro n; rfl
    | cons x l ih =>
      intro n
      unfold enumFrom
      rw [ih, List.length_cons, List.range_succ_eq_map, List.map_cons, List.map_map]
      congr 1
      refine List.map_congr_left fun i _ => ?_
      simp
      omega
  rw [aux, List.length_map, List.length_range]
  refine List.map_congr_left fun i hi => ?_
  have hi := List.mem_range.mp hi
  simp [hi]
theorem ev_enm {a : E} {fr : Bool} {xs : List D} (h : evE cf a Γ = .ok (.lst xs, fr) Γ1) : evI cf (.enm a) Γ = .ok (enumFrom 0 xs) Γ1 := by
  rw [evI, h]
  rfl
theorem ev_seqL {a : E} {fr : Bool} {xs : List D} (h : evE cf a Γ = .ok (.lst xs, fr) Γ1) : evI cf (.seq a) Γ = .ok xs Γ1 := by
  rw [evI, h]
  rfl
theorem ev_seqT {a : E} {fr : Bool} {xs : List D} (h : evE cf a Γ = .ok (.tup xs, fr) Γ1) : evI cf (.seq a) Γ = .ok xs Γ1 := by
  rw [evI, h]
  rfl
/-- a loop over items told by their places -/
theorem for_ix {h : Nat → D} (hi : evI cf it Γ = .ok ((List.range k).map h) Γ1) (f : Nat → Env) (h0 : f 0 = Γ1) (hs : ∀ i, i < k → ∃ Γ', bind1 (f i) g (h i) = some Γ' ∧ (evSs cf b Γ' = .nx (f (i + 1)) ∨ evSs cf b Γ' = .ct (f (i + 1)))) : evS cf (.for_ g it b) Γ = .nx (f k) := by
  have := for_seq (g := g) (b := b) hi f h0 fun i x e => by
    rw [List.getElem?_map] at e
    obtain ⟨j, e1, e2⟩ := Option.map_eq_some_iff.mp e
    obtain ⟨h1, h2⟩ := List.getElem?_eq_some_iff.mp e1
    rw [List.getElem_range] at h2
    subst h2 e2
    rw [List.length_range] at h1
    exact hs i h1
  rwa [List.length_map, List.length_range] at this
end
section
variable {cf : CallF} {Γ Γ0 Γ1 Γ2 : Env} {a b : T} {e : E} {c d : Bool} {fr : Bool}
theorem ev_or1 (h : evT cf a Γ = .ok true Γ1) : evT cf (.or_ a b) Γ = .ok true Γ1 := by
  rw [evT, h]
  rfl
theorem ev_or0 (h : evT cf a Γ = .ok false Γ1) (h2 : evT cf b Γ1 = .ok c Γ2) : evT cf (.or_ a b) Γ = .ok c Γ2 := by
  rw [evT, h]
  exact h2
theorem ev_and0 (h : evT cf a Γ = .ok false Γ1) : evT cf (.and_ a b) Γ = .ok false Γ1 := by
  rw [evT, h]
  rfl
theorem ev_and1 (h : evT cf a Γ = .ok true Γ1) (h2 : evT cf b Γ1 = .ok c Γ2) : evT cf (.and_ a b) Γ = .ok c Γ2 := by
  rw [evT, h]
  exact h2
theorem ev_not (h : evT cf a Γ = .ok c Γ1) : evT cf (.not_ a) Γ = .ok (!c) Γ1 := by
  rw [evT, h]
  rfl
theorem ev_tv (h : evE cf e Γ = .ok (.bl c, fr) Γ1) : evT cf (.val (.e e)) Γ = .ok c Γ1 := by
  rw [evT, evP, h]
  rfl
end
section
variable {cf : CallF} {Γ Γ0 Γ1 Γ2 : Env} {a b : E} {d e : D} {c : Bool} {fr fr' : Bool} {o : Cop} {z : Str}
theorem ev_cmp2 (h : evE cf a Γ = .ok (d, fr) Γ1) (h' : evE cf b Γ1 = .ok (e, fr') Γ2) (hb : copD o d e = some c) : evE cf (.cmp o (.e a) (.e b)) Γ = .ok (.bl c, false) Γ2 := by
  rw [evE, evP, h]
  show ((evP cf (.e b) Γ1).bind fun y Γ2 => match some d, y.get Γ2 with
    | some d, some e => (liftO (copD o d e) Γ2).bind fun r Γ3 => .ok (D.bl r, false) Γ3
    | _, _ => .no) = _
  rw [evP, h']
  show (liftO (copD o d e) Γ2).bind _ = _
  rw [hb]
  rfl
theorem eq_strS {z : Str} : eqD (.str z) (.str z) = some true := by
  show some (PyData.eqv (.str z) (.str z)) = _
  simp [PyData.eqv]
theorem ne_repr (h : evE cf a Γ = .ok (d, fr) Γ) (h' : evE cf b Γ = .ok (d, fr') Γ) (hr : b1D .repr d = some (.str z)) : evT cf (.val (.e (.cmp .ne (.e (.bl1 .repr (.e a))) (.e (.bl1 .repr (.e b)))))) Γ = .ok false Γ :=
  ev_tv (ev_cmp2 (ev_bl1 h hr) (ev_bl1 h' hr) (by show (eqD (.str z) (.str z)).map _ = _; rw [eq_strS]; rfl))
theorem eq_repr (h : evE cf a Γ = .ok (d, fr) Γ) (h' : evE cf b Γ = .ok (d, fr') Γ) (hr : b1D .repr d = some (.str z)) : evE cf (.cmp .eq (.e (.bl1 .repr (.e a))) (.e (.bl1 .repr (.e b)))) Γ = .ok (.bl true, false) Γ :=
  ev_cmp2 (ev_bl1 h hr) (ev_bl1 h' hr) (by show eqD (.str z) (.str z) = _; rw [eq_strS])
end
end Dn
end

section
set_option linter.all false
set_option autoImplicit false
set_option maxRecDepth 100000
set_option Elab.async false
set_option exponentiation.threshold 500000
/-! M69A: k69, the plain law: fractions. -/
namespace Dn.K69
open PySem PySem.Spec PyProof.Rows L2 Dn
theorem up {n d : Nat} (h : d + 1 ≤ n) : ∃ m, n = m + 1 ∧ d ≤ m := ⟨n - 1, by omega, by omega⟩
def Sm (i : Int) : Prop := i.natAbs < 2 ^ 3000
theorem Sm.fit {i j : Int} (h : Sm i) (h' : Sm j) : fitMul i j = true := fitMul_of (Nat.lt_of_lt_of_le h (Nat.pow_le_pow_right (by decide) (by decide))) (Nat.lt_of_lt_of_le h' (Nat.pow_le_pow_right (by decide) (by decide)))
theorem Sm.mul {i j : Int} (h : Sm i) (h' : Sm j) : (i * j).natAbs < 2 ^ 6000 := by
  rw [Int.natAbs_mul, show 6000 = 3000 + 3000 from rfl, Nat.pow_add]
  exact Nat.mul_lt_mul'' h h'
theorem Sm.le {i j : Int} (h : Sm j) (h' : i.natAbs ≤ j.natAbs) : Sm i := Nat.lt_of_le_of_lt h' h
theorem Sm.of {i : Int} {k : Nat} (h : i.natAbs < 2 ^ k) (hk : k ≤ 3000) : Sm i := Nat.lt_of_lt_of_le h (Nat.pow_le_pow_right (by decide) hk)
theorem Sm.nf {x d : Int} (hd : 0 < d) (h : Sm x) (h' : Sm d) : Sm (nfP x d).1 ∧ Sm (nfP x d).2 := by
  obtain ⟨h1, h2, h3, h4, h5⟩ := nf_spec (x := x) hd
  exact ⟨h.le h5, h'.le (by omega)⟩
theorem add6 {i j : Int} (h : i.natAbs < 2 ^ 6000) (h' : j.natAbs < 2 ^ 6000) : (i + j).natAbs < 2 ^ 6001 := by
  have := Int.natAbs_add_le i j
  rw [show 6001 = 6000 + 1 from rfl, Nat.pow_succ]
  omega
theorem sub6 {i j : Int} (h : i.natAbs < 2 ^ 6000) (h' : j.natAbs < 2 ^ 6000) : (i - j).natAbs < 2 ^ 6001 := by
  have := Int.natAbs_sub_le i j
  rw [show 6001 = 6000 + 1 from rfl, Nat.pow_succ]
  omega
theorem p4 : (2 : Nat) ^ 6000 ≤ 2 ^ 400000 := Nat.pow_le_pow_right (by decide) (by decide)
theorem p41 : (2 : Nat) ^ 6001 ≤ 2 ^ 400000 := Nat.pow_le_pow_right (by decide) (by decide)
theorem p8 : (2 : Nat) ^ 6000 ≤ 2 ^ 8000 := Nat.pow_le_pow_right (by decide) (by decide)
theorem p81 : (2 : Nat) ^ 6001 ≤ 2 ^ 8000 := Nat.pow_le_pow_right (by decide) (by decide)
theorem p84 : (2 : Nat) ^ 8000 ≤ 2 ^ 400000 := Nat.pow_le_pow_right (by decide) (by decide)
theorem one4 : (1 : Int).natAbs < 2 ^ 400000 := Nat.lt_of_lt_of_le (show (1 : Int).natAbs < 2 ^ 1 by decide) (Nat.pow_le_pow_right (by decide) (by decide))
theorem absD {a : Int} : (if a < 0 then -a else a) = (a.natAbs : Int) := by split <;> omega
theorem gcdP {a b : Int} (hb : 0 < b) : (0 : Int) < (Nat.gcd a.natAbs b.natAbs : Nat) := by
  have : 0 < Nat.gcd a.natAbs b.natAbs := Nat.gcd_pos_of_pos_right _ (by omega)
  omega
theorem gcdL {a b : Int} (hb : 0 < b) (h : b.natAbs < 2 ^ 8000) : ((Nat.gcd a.natAbs b.natAbs : Nat) : Int).natAbs < 2 ^ 8000 := by
  have := Nat.gcd_le_right a.natAbs (show 0 < b.natAbs by omega)
  rw [Int.natAbs_natCast]
  omega
theorem s_frac {n : Nat} (hn : 1 ≤ n) {a b : Int} (hb : 0 < b) (h : b.natAbs < 2 ^ 8000) : callD Pr.dfOf n 1 [.int a, .int b] = some (.ok (Q a b) false []) := by
  obtain ⟨k, rfl, hk⟩ := up hn
  rw [callD_def (d := d_told_fraction) rfl]
  refine run_rt (Γ0 := [.sh (.int a), .sh (.int b), .no, .no, .no]) rfl rfl ?_ (Γ' := [.sh (.int a), .sh (.int b), .sh (.int (Nat.gcd a.natAbs b.natAbs)), .sh (.int 0), .sh (.int (Nat.gcd a.natAbs b.natAbs))]) rfl
  refine (ss_nx (Γ1 := [.sh (.int a), .sh (.int b), .sh (.int a.natAbs), .sh (.int b.natAbs), .no]) (by simp only [okl0, okl1, okl2, okl3, okl4, okl5, okl6, okl7, okl8, runDf, runCore, inSl, evSs, evS, evE, evP, evT, evTs, evO, evEs, evAs, evI, evX, Res.bind, liftO, Hd.get, getA, getO, Sl.get?, store, bindF, bind1, bindL, storeL, bopD, copD, truD, b1D, b2D, idxD, slcD, augD, putC, isBox, isL, isC, getAll, Ah.get, refsOf, valsOf, putBack, outs, isX, isiD, optI, List.getElem?_cons_zero, List.getElem?_cons_succ, List.getElem?_nil, List.set_cons_zero, List.set_cons_succ, List.map_cons, List.map_nil, Option.map_some, Option.bind_some, Option.isSome_some, List.cons_append, List.nil_append, List.replicate_succ, List.replicate_zero, List.length_cons, List.length_nil, if_true, if_false, Bool.false_eq_true, reduceIte, ite_true, ite_false, absD])).trans ?_
  refine (ss_nx (gcd_whl (Nat.lt_of_lt_of_le h p84))).trans ?_
  have d1 := divD_of (i := a) (gcdP (a := a) hb) (gcdL hb h)
  have d2 := divD_of (i := b) (gcdP (a := a) hb) (gcdL hb h)
  have hb' : decide (b < 0) = false := decide_eq_false (by omega)
  simp only [okl0, okl1, okl2, okl3, okl4, okl5, okl6, okl7, okl8, runDf, runCore, inSl, evSs, evS, evE, evP, evT, evTs, evO, evEs, evAs, evI, evX, Res.bind, liftO, Hd.get, getA, getO, Sl.get?, store, bindF, bind1, bindL, storeL, bopD, copD, truD, b1D, b2D, idxD, slcD, augD, putC, isBox, isL, isC, getAll, Ah.get, refsOf, valsOf, putBack, outs, isX, isiD, optI, List.getElem?_cons_zero, List.getElem?_cons_succ, List.getElem?_nil, List.set_cons_zero, List.set_cons_succ, List.map_cons, List.map_nil, Option.map_some, Option.bind_some, Option.isSome_some, List.cons_append, List.nil_append, List.replicate_succ, List.replicate_zero, List.length_cons, List.length_nil, if_true, if_false, Bool.false_eq_true, reduceIte, ite_true, ite_false, hb', d1, d2]
  rfl
theorem s_lfrac {n : Nat} (hn : 1 ≤ n) {a b : Int} (hb : 0 < b) (h : b.natAbs < 2 ^ 8000) (ha : a.natAbs < 2 ^ 8000) : callD Pr.dfOf n 29 [.int a, .int b] = some (.ok (Q a b) false []) := by
  obtain ⟨k, rfl, hk⟩ := up hn
  rw [callD_def (d := d__law_frac) rfl]
  refine run_rt (Γ0 := [.sh (.int a), .sh (.int b), .no, .no, .no]) rfl rfl ?_ (Γ' := [.sh (.int a), .sh (.int b), .sh (.int (Nat.gcd a.natAbs b.natAbs)), .sh (.int 0), .sh (.int 1)]) rfl
  refine (ss_nx (Γ1 := [.sh (.int a), .sh (.int b), .sh (.int a.natAbs), .sh (.int b.natAbs), .no]) (by simp only [okl0, okl1, okl2, okl3, okl4, okl5, okl6, okl7, okl8, runDf, runCore, inSl, evSs, evS, evE, evP, evT, evTs, evO, evEs, evAs, evI, evX, Res.bind, liftO, Hd.get, getA, getO, Sl.get?, store, bindF, bind1, bindL, storeL, bopD, copD, truD, b1D, b2D, idxD, slcD, augD, putC, isBox, isL, isC, getAll, Ah.get, refsOf, valsOf, putBack, outs, isX, isiD, optI, List.getElem?_cons_zero, List.getElem?_cons_succ, List.getElem?_nil, List.set_cons_zero, List.set_cons_succ, List.map_cons, List.map_nil, Option.map_some, Option.bind_some, Option.isSome_some, List.cons_append, List.nil_append, List.replicate_succ, List.replicate_zero, List.length_cons, List.length_nil, if_true, if_false, Bool.false_eq_true, reduceIte, ite_true, ite_false, absD])).trans ?_
  refine (ss_nx (gcd_whl (Nat.lt_of_lt_of_le h p84))).trans ?_
  have d1 := divD_of (i := a) (gcdP (a := a) hb) (gcdL hb h)
  have d2 := divD_of (i := b) (gcdP (a := a) hb) (gcdL hb h)
  have hb' : decide (b < 0) = false := decide_eq_false (by omega)
  have f1 : fitMul 1 a = true := fitMul_of one4 (Nat.lt_of_lt_of_le ha p84)
  have f2 : fitMul 1 b = true := fitMul_of one4 (Nat.lt_of_lt_of_le h p84)
  simp only [okl0, okl1, okl2, okl3, okl4, okl5, okl6, okl7, okl8, runDf, runCore, inSl, evSs, evS, evE, evP, evT, evTs, evO, evEs, evAs, evI, evX, Res.bind, liftO, Hd.get, getA, getO, Sl.get?, store, bindF, bind1, bindL, storeL, bopD, copD, truD, b1D, b2D, idxD, slcD, augD, putC, isBox, isL, isC, getAll, Ah.get, refsOf, valsOf, putBack, outs, isX, isiD, optI, List.getElem?_cons_zero, List.getElem?_cons_succ, List.getElem?_nil, List.set_cons_zero, List.set_cons_succ, List.map_cons, List.map_nil, Option.map_some, Option.bind_some, Option.isSome_some, List.cons_append, List.nil_append, List.replicate_succ, List.replicate_zero, List.length_cons, List.length_nil, if_true, if_false, Bool.false_eq_true, reduceIte, ite_true, ite_false, hb', f1, f2, Int.one_mul, d1, d2]
  rfl
theorem atI0 {x y : D} : L2.atI [x, y] 0 = some x := rfl
theorem atI1 {x y : D} : L2.atI [x, y] 1 = some y := rfl
section
variable {n : Nat} {p q p' q' : Int}
theorem s_times (hn : 2 ≤ n) (h1 : Sm p) (h2 : Sm q) (h3 : Sm p') (h4 : Sm q') (hq : 0 < q) (hq' : 0 < q') : callD Pr.dfOf n 7 [.tup [.int p, .int q], .tup [.int p', .int q']] = some (.ok (Q (p * p') (q * q')) false []) := by
  obtain ⟨k, rfl, hk⟩ := up hn
  rw [callD_def (d := d_times) rfl]
  simp only [d_times, df_times, okl0, okl1, okl2, okl3, okl4, okl5, okl6, okl7, okl8, runDf, runCore, inSl, evSs, evS, evE, evP, evT, evTs, evO, evEs, evAs, evI, evX, Res.bind, liftO, Hd.get, getA, getO, Sl.get?, store, bindF, bind1, bindL, storeL, bopD, copD, truD, b1D, b2D, idxD, slcD, augD, putC, isBox, isL, isC, getAll, Ah.get, refsOf, valsOf, putBack, outs, isX, isiD, optI, List.getElem?_cons_zero, List.getElem?_cons_succ, List.getElem?_nil, List.set_cons_zero, List.set_cons_succ, List.map_cons, List.map_nil, Option.map_some, Option.bind_some, Option.isSome_some, List.cons_append, List.nil_append, List.replicate_succ, List.replicate_zero, List.length_cons, List.length_nil, if_true, if_false, Bool.false_eq_true, reduceIte, ite_true, ite_false, atI0, atI1, h1.fit h3, h2.fit h4, s_frac hk (Int.mul_pos hq hq') (Nat.lt_of_lt_of_le (h2.mul h4) p8), List.nodup_nil]
theorem s_ltimes (hn : 2 ≤ n) (h1 : Sm p) (h2 : Sm q) (h3 : Sm p') (h4 : Sm q') (hq : 0 < q) (hq' : 0 < q') : callD Pr.dfOf n 31 [.tup [.int p, .int q], .tup [.int p', .int q']] = some (.ok (Q (p * p') (q * q')) false []) := by
  obtain ⟨k, rfl, hk⟩ := up hn
  rw [callD_def (d := d__law_times) rfl]
  simp only [d__law_times, df__law_times, okl0, okl1, okl2, okl3, okl4, okl5, okl6, okl7, okl8, runDf, runCore, inSl, evSs, evS, evE, evP, evT, evTs, evO, evEs, evAs, evI, evX, Res.bind, liftO, Hd.get, getA, getO, Sl.get?, store, bindF, bind1, bindL, storeL, bopD, copD, truD, b1D, b2D, idxD, slcD, augD, putC, isBox, isL, isC, getAll, Ah.get, refsOf, valsOf, putBack, outs, isX, isiD, optI, List.getElem?_cons_zero, List.getElem?_cons_succ, List.getElem?_nil, List.set_cons_zero, List.set_cons_succ, List.map_cons, List.map_nil, Option.map_some, Option.bind_some, Option.isSome_some, List.cons_append, List.nil_append, List.replicate_succ, List.replicate_zero, List.length_cons, List.length_nil, if_true, if_false, Bool.false_eq_true, reduceIte, ite_true, ite_false, atI0, atI1, h1.fit h3, h2.fit h4, s_lfrac hk (Int.mul_pos hq hq') (Nat.lt_of_lt_of_le (h2.mul h4) p8) (Nat.lt_of_lt_of_le (h1.mul h3) p8), List.nodup_nil]
theorem s_lplus (hn : 2 ≤ n) (h1 : Sm p) (h2 : Sm q) (h3 : Sm p') (h4 : Sm q') (hq : 0 < q) (hq' : 0 < q') : callD Pr.dfOf n 30 [.tup [.int p, .int q], .tup [.int p', .int q']] = some (.ok (Q (p * q' + p' * q) (q * q')) false []) := by
  obtain ⟨k, rfl, hk⟩ := up hn
  rw [callD_def (d := d__law_plus) rfl]
  simp only [d__law_plus, df__law_plus, okl0, okl1, okl2, okl3, okl4, okl5, okl6, okl7, okl8, runDf, runCore, inSl, evSs, evS, evE, evP, evT, evTs, evO, evEs, evAs, evI, evX, Res.bind, liftO, Hd.get, getA, getO, Sl.get?, store, bindF, bind1, bindL, storeL, bopD, copD, truD, b1D, b2D, idxD, slcD, augD, putC, isBox, isL, isC, getAll, Ah.get, refsOf, valsOf, putBack, outs, isX, isiD, optI, List.getElem?_cons_zero, List.getElem?_cons_succ, List.getElem?_nil, List.set_cons_zero, List.set_cons_succ, List.map_cons, List.map_nil, Option.map_some, Option.bind_some, Option.isSome_some, List.cons_append, List.nil_append, List.replicate_succ, List.replicate_zero, List.length_cons, List.length_nil, if_true, if_false, Bool.false_eq_true, reduceIte, ite_true, ite_false, atI0, atI1, h1.fit h4, h3.fit h2, h2.fit h4, s_lfrac hk (Int.mul_pos hq hq') (Nat.lt_of_lt_of_le (h2.mul h4) p8) (Nat.lt_of_lt_of_le (add6 (h1.mul h4) (h3.mul h2)) p81), List.nodup_nil]
theorem s_lless (hn : 2 ≤ n) (h1 : Sm p) (h2 : Sm q) (h3 : Sm p') (h4 : Sm q') (hq : 0 < q) (hq' : 0 < q') : callD Pr.dfOf n 32 [.tup [.int p, .int q], .tup [.int p', .int q']] = some (.ok (Q (p * q' - p' * q) (q * q')) false []) := by
  obtain ⟨k, rfl, hk⟩ := up hn
  rw [callD_def (d := d__law_less) rfl]
  simp only [d__law_less, df__law_less, okl0, okl1, okl2, okl3, okl4, okl5, okl6, okl7, okl8, runDf, runCore, inSl, evSs, evS, evE, evP, evT, evTs, evO, evEs, evAs, evI, evX, Res.bind, liftO, Hd.get, getA, getO, Sl.get?, store, bindF, bind1, bindL, storeL, bopD, copD, truD, b1D, b2D, idxD, slcD, augD, putC, isBox, isL, isC, getAll, Ah.get, refsOf, valsOf, putBack, outs, isX, isiD, optI, List.getElem?_cons_zero, List.getElem?_cons_succ, List.getElem?_nil, List.set_cons_zero, List.set_cons_succ, List.map_cons, List.map_nil, Option.map_some, Option.bind_some, Option.isSome_some, List.cons_append, List.nil_append, List.replicate_succ, List.replicate_zero, List.length_cons, List.length_nil, if_true, if_false, Bool.false_eq_true, reduceIte, ite_true, ite_false, atI0, atI1, h1.fit h4, h3.fit h2, h2.fit h4, s_lfrac hk (Int.mul_pos hq hq') (Nat.lt_of_lt_of_le (h2.mul h4) p8) (Nat.lt_of_lt_of_le (sub6 (h1.mul h4) (h3.mul h2)) p81), List.nodup_nil]
theorem s_is_less (hn : 1 ≤ n) (h1 : Sm p) (h2 : Sm q) (h3 : Sm p') (h4 : Sm q') : callD Pr.dfOf n 8 [.tup [.int p, .int q], .tup [.int p', .int q']] = some (.ok (.bl (decide (p * q' < p' * q))) false []) := by
  obtain ⟨k, rfl, hk⟩ := up hn
  rw [callD_def (d := d_is_less) rfl]
  simp only [d_is_less, df_is_less, okl0, okl1, okl2, okl3, okl4, okl5, okl6, okl7, okl8, runDf, runCore, inSl, evSs, evS, evE, evP, evT, evTs, evO, evEs, evAs, evI, evX, Res.bind, liftO, Hd.get, getA, getO, Sl.get?, store, bindF, bind1, bindL, storeL, bopD, copD, truD, b1D, b2D, idxD, slcD, augD, putC, isBox, isL, isC, getAll, Ah.get, refsOf, valsOf, putBack, outs, isX, isiD, optI, List.getElem?_cons_zero, List.getElem?_cons_succ, List.getElem?_nil, List.set_cons_zero, List.set_cons_succ, List.map_cons, List.map_nil, Option.map_some, Option.bind_some, Option.isSome_some, List.cons_append, List.nil_append, List.replicate_succ, List.replicate_zero, List.length_cons, List.length_nil, if_true, if_false, Bool.false_eq_true, reduceIte, ite_true, ite_false, atI0, atI1, h1.fit h4, h3.fit h2]
theorem s_lis_less (hn : 1 ≤ n) (h1 : Sm p) (h2 : Sm q) (h3 : Sm p') (h4 : Sm q') : callD Pr.dfOf n 34 [.tup [.int p, .int q], .tup [.int p', .int q']] = some (.ok (.bl (decide (p * q' < p' * q))) false []) := by
  obtain ⟨k, rfl, hk⟩ := up hn
  rw [callD_def (d := d__law_is_less) rfl]
  simp only [d__law_is_less, df__law_is_less, okl0, okl1, okl2, okl3, okl4, okl5, okl6, okl7, okl8, runDf, runCore, inSl, evSs, evS, evE, evP, evT, evTs, evO, evEs, evAs, evI, evX, Res.bind, liftO, Hd.get, getA, getO, Sl.get?, store, bindF, bind1, bindL, storeL, bopD, copD, truD, b1D, b2D, idxD, slcD, augD, putC, isBox, isL, isC, getAll, Ah.get, refsOf, valsOf, putBack, outs, isX, isiD, optI, List.getElem?_cons_zero, List.getElem?_cons_succ, List.getElem?_nil, List.set_cons_zero, List.set_cons_succ, List.map_cons, List.map_nil, Option.map_some, Option.bind_some, Option.isSome_some, List.cons_append, List.nil_append, List.replicate_succ, List.replicate_zero, List.length_cons, List.length_nil, if_true, if_false, Bool.false_eq_true, reduceIte, ite_true, ite_false, atI0, atI1, h1.fit h4, h3.fit h2]
end
end Dn.K69
end

section
set_option linter.all false
set_option autoImplicit false
set_option maxRecDepth 100000
set_option Elab.async false
set_option exponentiation.threshold 500000
/-! M69B: fractions over one bottom; binomials. -/
namespace Dn.K69
open PySem PySem.Spec PyProof.Rows L2 Dn
section
variable {n : Nat} {x y d e : Int}
theorem plus_Q (hn : 2 ≤ n) (hd : 0 < d) (hx : Sm x) (hy : Sm y) (hs : Sm d) : callD Pr.dfOf n 30 [Q x d, Q y d] = some (.ok (Q (x + y) d) false []) := by
  obtain ⟨a1, a2, a3, _⟩ := nf_spec (x := x) hd
  obtain ⟨b1, b2, b3, _⟩ := nf_spec (x := y) hd
  have m := hx.nf hd hs
  have m' := hy.nf hd hs
  show callD Pr.dfOf n 30 [.tup [.int (nfP x d).1, .int (nfP x d).2], .tup [.int (nfP y d).1, .int (nfP y d).2]] = _
  rw [s_lplus hn m.1 m.2 m'.1 m'.2 a1 b1]
  congr 2
  refine Q_eq (Int.mul_pos a1 b1) hd ?_
  generalize (nfP x d).1 = p at *
  generalize (nfP x d).2 = q at *
  generalize (nfP y d).1 = p' at *
  generalize (nfP y d).2 = q' at *
  have e1 : (p * q' + p' * q) * d = (p * d) * q' + (p' * d) * q := by grind
  rw [e1, a2, b2]
  grind
theorem times_Q (hn : 2 ≤ n) (hd : 0 < d) (he : 0 < e) (hx : Sm x) (hy : Sm y) (hs : Sm d) (hs' : Sm e) : callD Pr.dfOf n 31 [Q x d, Q y e] = some (.ok (Q (x * y) (d * e)) false []) := by
  obtain ⟨a1, a2, a3, _⟩ := nf_spec (x := x) hd
  obtain ⟨b1, b2, b3, _⟩ := nf_spec (x := y) he
  have m := hx.nf hd hs
  have m' := hy.nf he hs'
  show callD Pr.dfOf n 31 [.tup [.int (nfP x d).1, .int (nfP x d).2], .tup [.int (nfP y e).1, .int (nfP y e).2]] = _
  rw [s_ltimes hn m.1 m.2 m'.1 m'.2 a1 b1]
  congr 2
  refine Q_eq (Int.mul_pos a1 b1) (Int.mul_pos hd he) ?_
  generalize (nfP x d).1 = p at *
  generalize (nfP x d).2 = q at *
  generalize (nfP y e).1 = p' at *
  generalize (nfP y e).2 = q' at *
  have e1 : (p * p') * (d * e) = (p * d) * (p' * e) := by grind
  rw [e1, a2, b2]
  grind
theorem ptimes_Q (hn : 2 ≤ n) (hd : 0 < d) (he : 0 < e) (hx : Sm x) (hy : Sm y) (hs : Sm d) (hs' : Sm e) : callD Pr.dfOf n 7 [Q x d, Q y e] = some (.ok (Q (x * y) (d * e)) false []) := by
  obtain ⟨a1, a2, a3, _⟩ := nf_spec (x := x) hd
  obtain ⟨b1, b2, b3, _⟩ := nf_spec (x := y) he
  have m := hx.nf hd hs
  have m' := hy.nf he hs'
  show callD Pr.dfOf n 7 [.tup [.int (nfP x d).1, .int (nfP x d).2], .tup [.int (nfP y e).1, .int (nfP y e).2]] = _
  rw [s_times hn m.1 m.2 m'.1 m'.2 a1 b1]
  congr 2
  refine Q_eq (Int.mul_pos a1 b1) (Int.mul_pos hd he) ?_
  generalize (nfP x d).1 = p at *
  generalize (nfP x d).2 = q at *
  generalize (nfP y e).1 = p' at *
  generalize (nfP y e).2 = q' at *
  have e1 : (p * p') * (d * e) = (p * d) * (p' * e) := by grind
  rw [e1, a2, b2]
  grind
theorem less_Q (hn : 2 ≤ n) (hd : 0 < d) (he : 0 < e) (hx : Sm x) (hy : Sm y) (hs : Sm d) (hs' : Sm e) : callD Pr.dfOf n 32 [Q x d, Q y e] = some (.ok (Q (x * e - y * d) (d * e)) false []) := by
  obtain ⟨a1, a2, a3, _⟩ := nf_spec (x := x) hd
  obtain ⟨b1, b2, b3, _⟩ := nf_spec (x := y) he
  have m := hx.nf hd hs
  have m' := hy.nf he hs'
  show callD Pr.dfOf n 32 [.tup [.int (nfP x d).1, .int (nfP x d).2], .tup [.int (nfP y e).1, .int (nfP y e).2]] = _
  rw [s_lless hn m.1 m.2 m'.1 m'.2 a1 b1]
  congr 2
  refine Q_eq (Int.mul_pos a1 b1) (Int.mul_pos hd he) ?_
  generalize (nfP x d).1 = p at *
  generalize (nfP x d).2 = q at *
  generalize (nfP y e).1 = p' at *
  generalize (nfP y e).2 = q' at *
  have e1 : (p * q' - p' * q) * (d * e) = (p * d) * q' * e - (p' * e) * q * d := by grind
  rw [e1, a2, b2]
  grind
theorem lt_nf (hd : 0 < d) (he : 0 < e) : decide ((nfP x d).1 * (nfP y e).2 < (nfP y e).1 * (nfP x d).2) = decide (x * e < y * d) := by
  obtain ⟨a1, a2, a3, _⟩ := nf_spec (x := x) hd
  obtain ⟨b1, b2, b3, _⟩ := nf_spec (x := y) he
  generalize (nfP x d).1 = p at *
  generalize (nfP x d).2 = q at *
  generalize (nfP y e).1 = p' at *
  generalize (nfP y e).2 = q' at *
  have key : (p * q' < p' * q) ↔ (x * e < y * d) := by
    have l1 : (p * q') * (d * e) = (x * e) * (q * q') := by
      have : (p * q') * (d * e) = (p * d) * (q' * e) := by grind
      rw [this, a2]; grind
    have l2 : (p' * q) * (d * e) = (y * d) * (q * q') := by
      have : (p' * q) * (d * e) = (p' * e) * (q * d) := by grind
      rw [this, b2]; grind
    have g1 := Int.mul_pos hd he
    have g2 := Int.mul_pos a1 b1
    constructor
    · intro h
      have := Int.mul_lt_mul_of_pos_right h g1
      rw [l1, l2] at this
      exact Int.lt_of_mul_lt_mul_right this (Int.le_of_lt g2)
    · intro h
      have := Int.mul_lt_mul_of_pos_right h g2
      rw [← l1, ← l2] at this
      exact Int.lt_of_mul_lt_mul_right this (Int.le_of_lt g1)
  exact decide_eq_decide.mpr key
theorem is_less_Q (hn : 1 ≤ n) (hd : 0 < d) (he : 0 < e) (hx : Sm x) (hy : Sm y) (hs : Sm d) (hs' : Sm e) : callD Pr.dfOf n 8 [Q x d, Q y e] = some (.ok (.bl (decide (x * e < y * d))) false []) := by
  have m := hx.nf hd hs
  have m' := hy.nf he hs'
  show callD Pr.dfOf n 8 [.tup [.int (nfP x d).1, .int (nfP x d).2], .tup [.int (nfP y e).1, .int (nfP y e).2]] = _
  rw [s_is_less hn m.1 m.2 m'.1 m'.2, lt_nf hd he]
theorem lis_less_Q (hn : 1 ≤ n) (hd : 0 < d) (he : 0 < e) (hx : Sm x) (hy : Sm y) (hs : Sm d) (hs' : Sm e) : callD Pr.dfOf n 34 [Q x d, Q y e] = some (.ok (.bl (decide (x * e < y * d))) false []) := by
  have m := hx.nf hd hs
  have m' := hy.nf he hs'
  show callD Pr.dfOf n 34 [.tup [.int (nfP x d).1, .int (nfP x d).2], .tup [.int (nfP y e).1, .int (nfP y e).2]] = _
  rw [s_lis_less hn m.1 m.2 m'.1 m'.2, lt_nf hd he]
end
/-! ### binomials -/
def ch : Nat → Nat → Nat
  | _, 0 => 1
  | 0, _ + 1 => 0
  | n + 1, k + 1 => ch n k + ch n (k + 1)
theorem ch_zero (n : Nat) : ch n 0 = 1 := by cases n <;> rfl
theorem ch_gt : ∀ (n k : Nat), n < k → ch n k = 0
  | 0, k + 1, _ => rfl
  | n + 1, k + 1, h => by
    show ch n k + ch n (k + 1) = 0
    rw [ch_gt n k (by omega), ch_gt n (k + 1) (by omega)]
theorem ch_step : ∀ (n k : Nat), (k + 1) * ch n (k + 1) = (n - k) * ch n k
  | 0, 0 => rfl
  | 0, k + 1 => by show (k + 1 + 1) * 0 = (0 - (k + 1)) * 0; rfl
  | n + 1, 0 => by
    show (0 + 1) * (ch n 0 + ch n 1) = (n + 1 - 0) * 1
    have := ch_step n 0
    rw [ch_zero] at this ⊢
    simp at this ⊢
    omega
  | n + 1, k + 1 => by
    show (k + 1 + 1) * (ch n (k + 1) + ch n (k + 2)) = (n + 1 - (k + 1)) * (ch n k + ch n (k + 1))
    have h1 := ch_step n (k + 1)
    have h2 := ch_step n k
    by_cases h : k + 1 ≤ n
    · obtain ⟨m, rfl⟩ : ∃ m, n = k + 1 + m := ⟨n - (k + 1), by omega⟩
      rw [show k + 1 + m - (k + 1) = m by omega] at h1
      rw [show k + 1 + m - k = m + 1 by omega] at h2
      rw [show k + 1 + m + 1 - (k + 1) = m + 1 by omega]
      grind
    · rw [ch_gt n (k + 1) (by omega), ch_gt n (k + 2) (by omega)]
      rw [show n + 1 - (k + 1) = n - k by omega]
      rw [ch_gt n (k + 1) (by omega)] at h2
      omega
/-- the chance of just i of k, times the bottom's power -/
def bn (t u : Int) : Nat → Nat → Int
  | 0, 0 => 1
  | 0, _ + 1 => 0
  | k + 1, 0 => bn t u k 0 * u
  | k + 1, i + 1 => bn t u k (i + 1) * u + bn t u k i * t
theorem bn_gt (t u : Int) : ∀ (k i : Nat), k < i → bn t u k i = 0
  | 0, i + 1, _ => rfl
  | k + 1, i + 1, h => by
    show bn t u k (i + 1) * u + bn t u k i * t = 0
    rw [bn_gt t u k (i + 1) (by omega), bn_gt t u k i (by omega)]
    simp
theorem bn_eq (t u : Int) : ∀ (k i : Nat), i ≤ k → bn t u k i = (ch k i : Int) * t ^ i * u ^ (k - i)
  | 0, 0, _ => by simp [bn, ch]
  | k + 1, 0, _ => by
    show bn t u k 0 * u = _
    rw [bn_eq t u k 0 (by omega), ch_zero, ch_zero, Nat.sub_zero, Nat.sub_zero, Int.pow_succ]
    grind
  | k + 1, i + 1, h => by
    show bn t u k (i + 1) * u + bn t u k i * t = ((ch k i + ch k (i + 1) : Nat) : Int) * t ^ (i + 1) * u ^ (k + 1 - (i + 1))
    rw [bn_eq t u k i (by omega), show k + 1 - (i + 1) = k - i by omega]
    by_cases h2 : i + 1 ≤ k
    · rw [bn_eq t u k (i + 1) h2, show k - i = (k - (i + 1)) + 1 by omega, Int.pow_succ, Int.pow_succ, Int.natCast_add]
      grind
    · rw [bn_gt t u k (i + 1) (by omega), ch_gt k (i + 1) (by omega), Int.pow_succ]
      simp
      grind
theorem bn_nonneg {t u : Int} (ht : 0 ≤ t) (hu : 0 ≤ u) : ∀ (k i : Nat), 0 ≤ bn t u k i
  | 0, 0 => by show (0 : Int) ≤ 1; decide
  | 0, i + 1 => by show (0 : Int) ≤ 0; omega
  | k + 1, 0 => Int.mul_nonneg (bn_nonneg ht hu k 0) hu
  | k + 1, i + 1 => Int.add_nonneg (Int.mul_nonneg (bn_nonneg ht hu k (i + 1)) hu) (Int.mul_nonneg (bn_nonneg ht hu k i) ht)
/-- sums over an initial part -/
def sm (f : Nat → Int) : Nat → Int
  | 0 => 0
  | n + 1 => sm f n + f n
theorem sm_nonneg {f : Nat → Int} (h : ∀ i, 0 ≤ f i) : ∀ n, 0 ≤ sm f n
  | 0 => by show (0 : Int) ≤ 0; omega
  | n + 1 => Int.add_nonneg (sm_nonneg h n) (h n)
theorem sm_mono {f : Nat → Int} (h : ∀ i, 0 ≤ f i) {a b : Nat} (hab : a ≤ b) : sm f a ≤ sm f b := by
  induction hab with
  | refl => omega
  | step _ ih => show _ ≤ sm f _ + f _; have := h ‹_›; omega
theorem bn_sum (t u : Int) : ∀ k, sm (bn t u k) (k + 1) = (t + u) ^ k
  | 0 => by rw [Int.pow_zero]; rfl
  | k + 1 => by
    have aux : ∀ m, sm (bn t u (k + 1)) (m + 1) = u * sm (bn t u k) (m + 1) + t * sm (bn t u k) m := by
      intro m
      induction m with
      | zero =>
        show 0 + bn t u k 0 * u = u * (0 + bn t u k 0) + t * 0
        grind
      | succ m ih =>
        show sm (bn t u (k + 1)) (m + 1) + (bn t u k (m + 1) * u + bn t u k m * t) = u * (sm (bn t u k) (m + 1) + bn t u k (m + 1)) + t * (sm (bn t u k) m + bn t u k m)
        rw [ih]
        grind
    rw [aux (k + 1)]
    show u * (sm (bn t u k) (k + 1) + bn t u k (k + 1)) + t * sm (bn t u k) (k + 1) = _
    rw [bn_gt t u k (k + 1) (by omega), bn_sum t u k, Int.pow_succ]
    grind
theorem sum_map_range (f : Nat → Int) : ∀ n, ((List.range n).map f).sum = sm f n
  | 0 => rfl
  | n + 1 => by
    rw [List.range_succ, List.map_append, List.sum_append, sum_map_range f n]
    simp [sm]
end Dn.K69
end

section
set_option linter.all false
set_option autoImplicit false
set_option maxRecDepth 100000
set_option Elab.async false
set_option exponentiation.threshold 500000
/-! M69C: the program's parts and tails. -/
namespace Dn.K69
open PySem PySem.Spec PyProof.Rows L2 Dn
theorem ch_le : ∀ n k : Nat, ch n k ≤ 2 ^ n
  | 0, 0 => by decide
  | 0, k + 1 => by show 0 ≤ _; omega
  | n + 1, 0 => by rw [ch_zero]; exact Nat.one_le_two_pow
  | n + 1, k + 1 => by
    show ch n k + ch n (k + 1) ≤ _
    have := ch_le n k
    have := ch_le n (k + 1)
    rw [Nat.pow_succ]
    omega
theorem s_is_int {n : Nat} (hn : 1 ≤ n) {i l m : Int} : callD Pr.dfOf n 0 [.int i, .int l, .int m] = some (.ok (.bl (decide (l ≤ i) && decide (i ≤ m))) false []) := by
  obtain ⟨k, rfl, hk⟩ := up hn
  rw [callD_def (d := d_is_int) rfl]
  simp only [d_is_int, df_is_int, okl0, okl1, okl2, okl3, okl4, okl5, okl6, okl7, okl8, runDf, runCore, inSl, evSs, evS, evE, evP, evT, evTs, evO, evEs, evAs, evI, evX, Res.bind, liftO, Hd.get, getA, getO, Sl.get?, store, bindF, bind1, bindL, storeL, bopD, copD, truD, b1D, b2D, idxD, slcD, augD, putC, isBox, isL, isC, getAll, Ah.get, refsOf, valsOf, putBack, outs, isX, isiD, optI, List.getElem?_cons_zero, List.getElem?_cons_succ, List.getElem?_nil, List.set_cons_zero, List.set_cons_succ, List.map_cons, List.map_nil, Option.map_some, Option.bind_some, Option.isSome_some, List.cons_append, List.nil_append, List.replicate_succ, List.replicate_zero, List.length_cons, List.length_nil, if_true, if_false, Bool.false_eq_true, reduceIte, ite_true, ite_false]
  by_cases h : l ≤ i <;> simp [h, outs]
/-- (.sh of the loop's name) -/
def lp (i : Nat) : Sl := match i with
  | 0 => .no
  | i + 1 => .sh (.int (i : Nat))
theorem s_ways {n : Nat} (hn : 1 ≤ n) {m s : Nat} (hm : m ≤ 60) (hs : s ≤ m) : callD Pr.dfOf n 9 [.int m, .int s] = some (.ok (.int (ch m s)) false []) := by
  obtain ⟨k, rfl, hk⟩ := up hn
  rw [callD_def (d := d_told_ways) rfl]
  refine run_rt (Γ0 := [.sh (.int m), .sh (.int s), .no, .no]) rfl rfl ?_ (Γ' := [.sh (.int m), .sh (.int s), .sh (.int (ch m s)), lp s]) rfl
  refine (ss_nx (Γ1 := [.sh (.int m), .sh (.int s), .sh (.int 1), .no]) (by simp only [okl0, okl1, okl2, okl3, okl4, okl5, okl6, okl7, okl8, runDf, runCore, inSl, evSs, evS, evE, evP, evT, evTs, evO, evEs, evAs, evI, evX, Res.bind, liftO, Hd.get, getA, getO, Sl.get?, store, bindF, bind1, bindL, storeL, bopD, copD, truD, b1D, b2D, idxD, slcD, augD, putC, isBox, isL, isC, getAll, Ah.get, refsOf, valsOf, putBack, outs, isX, isiD, optI, List.getElem?_cons_zero, List.getElem?_cons_succ, List.getElem?_nil, List.set_cons_zero, List.set_cons_succ, List.map_cons, List.map_nil, Option.map_some, Option.bind_some, Option.isSome_some, List.cons_append, List.nil_append, List.replicate_succ, List.replicate_zero, List.length_cons, List.length_nil, if_true, if_false, Bool.false_eq_true, reduceIte, ite_true, ite_false])).trans ?_
  refine (ss_nx (for_rng (k := s) (Γ1 := [.sh (.int m), .sh (.int s), .sh (.int 1), .no]) ?_ (fun i => [.sh (.int m), .sh (.int s), .sh (.int (ch m i)), lp i]) (by rw [ch_zero]; rfl) fun i hi => ⟨[.sh (.int m), .sh (.int s), .sh (.int (ch m i)), .sh (.int i)], ?_, .inl ?_⟩)).trans ?_
  · exact ev_rng1 rfl rfl (by omega)
  · cases i <;> rfl
  · have h1 : ch m i ≤ 2 ^ 60 := Nat.le_trans (ch_le m i) (Nat.pow_le_pow_right (by decide) hm)
    have e1 : ((m : Int) - (i : Int)) = ((m - i : Nat) : Int) := by omega
    have f1 : fitMul (ch m i : Int) ((m : Int) - (i : Int)) = true := by
      rw [e1]
      refine Sm.fit (Sm.of (k := 61) ?_ (by decide)) (Sm.of (k := 61) ?_ (by decide))
      · rw [Int.natAbs_natCast]; omega
      · rw [Int.natAbs_natCast]; omega
    have d1 : divD ((ch m i : Int) * ((m : Int) - (i : Int))) ((i : Int) + 1) = some (ch m (i + 1) : Int) := by
      rw [divD_of (by omega) (by have : ((i : Int) + 1).natAbs < 2 ^ 7 := by omega
                                 exact Nat.lt_of_lt_of_le this (Nat.pow_le_pow_right (by decide) (by decide)))]
      congr 1
      have := ch_step m i
      rw [e1]
      have e2 : (ch m i : Int) * ((m - i : Nat) : Int) = ((i : Int) + 1) * (ch m (i + 1) : Int) := by
        have := congrArg (fun z : Nat => (z : Int)) this
        simp only [Int.natCast_mul, Int.natCast_add, Int.natCast_one] at this
        rw [Int.mul_comm, ← this]
      rw [e2, Int.mul_ediv_cancel_left _ (by omega)]
    simp only [okl0, okl1, okl2, okl3, okl4, okl5, okl6, okl7, okl8, runDf, runCore, inSl, evSs, evS, evE, evP, evT, evTs, evO, evEs, evAs, evI, evX, Res.bind, liftO, Hd.get, getA, getO, Sl.get?, store, bindF, bind1, bindL, storeL, bopD, copD, truD, b1D, b2D, idxD, slcD, augD, putC, isBox, isL, isC, getAll, Ah.get, refsOf, valsOf, putBack, outs, isX, isiD, optI, List.getElem?_cons_zero, List.getElem?_cons_succ, List.getElem?_nil, List.set_cons_zero, List.set_cons_succ, List.map_cons, List.map_nil, Option.map_some, Option.bind_some, Option.isSome_some, List.cons_append, List.nil_append, List.replicate_succ, List.replicate_zero, List.length_cons, List.length_nil, if_true, if_false, Bool.false_eq_true, reduceIte, ite_true, ite_false, f1, d1, lp]
  · simp only [okl0, okl1, okl2, okl3, okl4, okl5, okl6, okl7, okl8, runDf, runCore, inSl, evSs, evS, evE, evP, evT, evTs, evO, evEs, evAs, evI, evX, Res.bind, liftO, Hd.get, getA, getO, Sl.get?, store, bindF, bind1, bindL, storeL, bopD, copD, truD, b1D, b2D, idxD, slcD, augD, putC, isBox, isL, isC, getAll, Ah.get, refsOf, valsOf, putBack, outs, isX, isiD, optI, List.getElem?_cons_zero, List.getElem?_cons_succ, List.getElem?_nil, List.set_cons_zero, List.set_cons_succ, List.map_cons, List.map_nil, Option.map_some, Option.bind_some, Option.isSome_some, List.cons_append, List.nil_append, List.replicate_succ, List.replicate_zero, List.length_cons, List.length_nil, if_true, if_false, Bool.false_eq_true, reduceIte, ite_true, ite_false]
/-! ### the parts -/
def pw (x : Int) (n : Nat) : List D := (List.range n).map fun j => .int (x ^ j)
theorem pw_succ (x : Int) (n : Nat) : pw x (n + 1) = pw x n ++ [.int (x ^ n)] := by unfold pw; rw [List.range_succ, List.map_append]; rfl
theorem pw_len (x : Int) (n : Nat) : (pw x n).length = n := by unfold pw; rw [List.length_map, List.length_range]
theorem pw_last {x : Int} {n : Nat} : L2.atI (pw x (n + 1)) (-1) = some (.int (x ^ n)) := by rw [pw_succ, atI_last]
theorem ps (x : Int) (i : Nat) : x ^ i * x = x ^ (i + 1) := (Int.pow_succ x i).symm
theorem pw_get {x : Int} {n i : Nat} (h : i < n) : L2.atI (pw x n) (i : Int) = some (.int (x ^ i)) := by
  rw [atI_nat (by rw [pw_len]; exact h)]
  unfold pw
  rw [List.getElem?_map, List.getElem?_range h]
  rfl
theorem pow_sm {x : Int} {i : Nat} (h : x.natAbs ≤ 2 ^ 30) (hi : i ≤ 60) : (x ^ i).natAbs ≤ 2 ^ 1800 := by
  rw [Int.natAbs_pow]
  refine Nat.le_trans (Nat.pow_le_pow_left h i) ?_
  rw [← Nat.pow_mul]
  exact Nat.pow_le_pow_right (by decide) (by omega)
theorem sm1800 {x : Int} (h : x.natAbs ≤ 2 ^ 1800) : Sm x := Nat.lt_of_le_of_lt h (Nat.pow_lt_pow_right (by decide) (by decide))
/-- the bounds -/
structure Ok (m : Nat) (t b : Int) : Prop where
  m : m ≤ 60
  t0 : 0 ≤ t
  tb : t ≤ b
  b0 : 0 < b
  bl : b ≤ 2 ^ 30
namespace Ok
variable {m : Nat} {t b : Int} (h : Ok m t b)
include h
theorem ta : t.natAbs ≤ 2 ^ 30 := by have := h.t0; have := h.tb; have := h.bl; omega
theorem ua : (b - t).natAbs ≤ 2 ^ 30 := by have := h.t0; have := h.tb; have := h.bl; omega
theorem ba : b.natAbs ≤ 2 ^ 30 := by have := h.b0; have := h.bl; omega
theorem sb : Sm b := sm1800 (Nat.le_trans h.ba (Nat.pow_le_pow_right (by decide) (by decide)))
theorem sm_t : Sm t := sm1800 (Nat.le_trans h.ta (Nat.pow_le_pow_right (by decide) (by decide)))
theorem su : Sm (b - t) := sm1800 (Nat.le_trans h.ua (Nat.pow_le_pow_right (by decide) (by decide)))
end Ok
theorem s_parts {n : Nat} (hn : 2 ≤ n) {m : Nat} {t b : Int} (h : Ok m t b) : callD Pr.dfOf n 10 [.int m, .tup [.int t, .int b]] = some (.ok (.tup [.lst (((List.range (m + 1)).map (bn t (b - t) m)).map .int), .int (b ^ m)]) false []) := by
  have hm := h.m
  obtain ⟨k, rfl, hk⟩ := up hn
  rw [callD_def (d := d_told_parts) rfl]
  refine run_rt (Γ0 := [.sh (.int m), .sh (.tup [.int t, .int b]), .no, .no, .no, .no, .no, .no, .no]) rfl rfl ?_ (Γ' := [.sh (.int m), .sh (.tup [.int t, .int b]), .sh (.int t), .sh (.int b), .ow (.lst (pw t (m + 1))), .ow (.lst (pw (b - t) (m + 1))), .sh (.int (b ^ m)), lp m, .no]) rfl
  refine (ss_nx (Γ1 := [.sh (.int m), .sh (.tup [.int t, .int b]), .sh (.int t), .sh (.int b), .no, .no, .no, .no, .no]) rfl).trans ?_
  refine (ss_nx (Γ1 := [.sh (.int m), .sh (.tup [.int t, .int b]), .sh (.int t), .sh (.int b), .ow (.lst [.int 1]), .ow (.lst [.int 1]), .sh (.int 1), .no, .no]) rfl).trans ?_
  refine (ss_nx (for_rng (k := m) (Γ1 := [.sh (.int m), .sh (.tup [.int t, .int b]), .sh (.int t), .sh (.int b), .ow (.lst [.int 1]), .ow (.lst [.int 1]), .sh (.int 1), .no, .no]) (ev_rng1 rfl rfl (by omega)) (fun i => [.sh (.int m), .sh (.tup [.int t, .int b]), .sh (.int t), .sh (.int b), .ow (.lst (pw t (i + 1))), .ow (.lst (pw (b - t) (i + 1))), .sh (.int (b ^ i)), lp i, .no]) (by rw [Int.pow_zero, show pw t (0 + 1) = [.int 1] from by simp [pw], show pw (b - t) (0 + 1) = [.int 1] from by simp [pw]]; rfl) fun i hi =>
    ⟨[.sh (.int m), .sh (.tup [.int t, .int b]), .sh (.int t), .sh (.int b), .ow (.lst (pw t (i + 1))), .ow (.lst (pw (b - t) (i + 1))), .sh (.int (b ^ i)), .sh (.int i), .no], ?_, .inl ?_⟩)).trans ?_
  · cases i <;> rfl
  · have f1 : fitMul (t ^ i) t = true := (sm1800 (pow_sm h.ta (by omega))).fit h.sm_t
    have f2 : fitMul ((b - t) ^ i) (b - t) = true := (sm1800 (pow_sm h.ua (by omega))).fit h.su
    have f3 : fitMul (b ^ i) b = true := (sm1800 (pow_sm h.ba (by omega))).fit h.sb
    have l1 : okLen (i + 1) = true := okLen_of (by omega)
    refine (ss_nx (Γ1 := [.sh (.int m), .sh (.tup [.int t, .int b]), .sh (.int t), .sh (.int b), .ow (.lst (pw t (i + 2))), .ow (.lst (pw (b - t) (i + 1))), .sh (.int (b ^ i)), .sh (.int i), .no]) ?_).trans ?_
    · have e := pw_succ t (i + 1)
      simp only [okl0, okl1, okl2, okl3, okl4, okl5, okl6, okl7, okl8, runDf, runCore, inSl, evSs, evS, evE, evP, evT, evTs, evO, evEs, evAs, evI, evX, Res.bind, liftO, Hd.get, getA, getO, Sl.get?, store, bindF, bind1, bindL, storeL, bopD, copD, truD, b1D, b2D, idxD, slcD, augD, putC, isBox, isL, isC, getAll, Ah.get, refsOf, valsOf, putBack, outs, isX, isiD, optI, List.getElem?_cons_zero, List.getElem?_cons_succ, List.getElem?_nil, List.set_cons_zero, List.set_cons_succ, List.map_cons, List.map_nil, Option.map_some, Option.bind_some, Option.isSome_some, List.cons_append, List.nil_append, List.replicate_succ, List.replicate_zero, List.length_cons, List.length_nil, if_true, if_false, Bool.false_eq_true, reduceIte, ite_true, ite_false, pw_len, l1, pw_last, f1, ps, ← e]
    refine (ss_nx (Γ1 := [.sh (.int m), .sh (.tup [.int t, .int b]), .sh (.int t), .sh (.int b), .ow (.lst (pw t (i + 2))), .ow (.lst (pw (b - t) (i + 2))), .sh (.int (b ^ i)), .sh (.int i), .no]) ?_).trans ?_
    · have e := pw_succ (b - t) (i + 1)
      simp only [okl0, okl1, okl2, okl3, okl4, okl5, okl6, okl7, okl8, runDf, runCore, inSl, evSs, evS, evE, evP, evT, evTs, evO, evEs, evAs, evI, evX, Res.bind, liftO, Hd.get, getA, getO, Sl.get?, store, bindF, bind1, bindL, storeL, bopD, copD, truD, b1D, b2D, idxD, slcD, augD, putC, isBox, isL, isC, getAll, Ah.get, refsOf, valsOf, putBack, outs, isX, isiD, optI, List.getElem?_cons_zero, List.getElem?_cons_succ, List.getElem?_nil, List.set_cons_zero, List.set_cons_succ, List.map_cons, List.map_nil, Option.map_some, Option.bind_some, Option.isSome_some, List.cons_append, List.nil_append, List.replicate_succ, List.replicate_zero, List.length_cons, List.length_nil, if_true, if_false, Bool.false_eq_true, reduceIte, ite_true, ite_false, pw_len, l1, pw_last, f2, ps, ← e]
    · simp only [okl0, okl1, okl2, okl3, okl4, okl5, okl6, okl7, okl8, runDf, runCore, inSl, evSs, evS, evE, evP, evT, evTs, evO, evEs, evAs, evI, evX, Res.bind, liftO, Hd.get, getA, getO, Sl.get?, store, bindF, bind1, bindL, storeL, bopD, copD, truD, b1D, b2D, idxD, slcD, augD, putC, isBox, isL, isC, getAll, Ah.get, refsOf, valsOf, putBack, outs, isX, isiD, optI, List.getElem?_cons_zero, List.getElem?_cons_succ, List.getElem?_nil, List.set_cons_zero, List.set_cons_succ, List.map_cons, List.map_nil, Option.map_some, Option.bind_some, Option.isSome_some, List.cons_append, List.nil_append, List.replicate_succ, List.replicate_zero, List.length_cons, List.length_nil, if_true, if_false, Bool.false_eq_true, reduceIte, ite_true, ite_false, f3, ps]
      rfl
  · have c := cmp_rng (cf := callD Pr.dfOf k) (Γ := [.sh (.int m), .sh (.tup [.int t, .int b]), .sh (.int t), .sh (.int b), .ow (.lst (pw t (m + 1))), .ow (.lst (pw (b - t) (m + 1))), .sh (.int (b ^ m)), lp m, .no]) (own := [8]) (n := 9) (g := .nm 8) (elt := .bin .mul (.e (.bin .mul (.e (.cal 9 (.val (.var 0) (.val (.var 8) (.nil))))) (.e (.idx (.pek 4) (.pek 8))))) (.e (.idx (.pek 5) (.e (.bin .sub (.pek 0) (.pek 8)))))) (Γ1 := [.sh (.int m), .sh (.tup [.int t, .int b]), .sh (.int t), .sh (.int b), .ow (.lst (pw t (m + 1))), .ow (.lst (pw (b - t) (m + 1))), .sh (.int (b ^ m)), lp m, .no]) (it := .rng1 (.e (.bin .add (.pek 0) (.e (.cst (.int 1)))))) (ev_rng1 (k := m + 1) (ev_P (fr := false) rfl) rfl (by omega)) rfl (fun i => .int (bn t (b - t) m i)) (by omega) rfl fun i hi => ?_
    · rw [List.map_map]
      exact ss_rt (e_ret (ev_tup2 c rfl))
    · refine ⟨[.sh (.int m), .sh (.tup [.int t, .int b]), .sh (.int t), .sh (.int b), .ow (.lst (pw t (m + 1))), .ow (.lst (pw (b - t) (m + 1))), .sh (.int (b ^ m)), lp m, .sh (.int i)], false, [.sh (.int m), .sh (.tup [.int t, .int b]), .sh (.int t), .sh (.int b), .ow (.lst (pw t (m + 1))), .ow (.lst (pw (b - t) (m + 1))), .sh (.int (b ^ m)), lp m, .sh (.int i)], rfl, ?_, rfl⟩
      have w := s_ways hk (m := m) (s := i) hm (by omega)
      have e1 : (m : Int) - (i : Int) = ((m - i : Nat) : Int) := by omega
      have g1 := pw_get (x := t) (show i < m + 1 by omega)
      have g2 := pw_get (x := b - t) (show m - i < m + 1 by omega)
      have c1 : ((ch m i : Nat) : Int).natAbs ≤ 2 ^ 60 := by rw [Int.natAbs_natCast]; exact Nat.le_trans (ch_le m i) (Nat.pow_le_pow_right (by decide) hm)
      have t1 := pow_sm h.ta (show i ≤ 60 by omega)
      have t2 := pow_sm h.ua (show m - i ≤ 60 by omega)
      have f1 : fitMul (ch m i : Int) (t ^ i) = true := (sm1800 (Nat.le_trans c1 (Nat.pow_le_pow_right (by decide) (by decide)))).fit (sm1800 t1)
      have f2 : fitMul ((ch m i : Int) * t ^ i) ((b - t) ^ (m - i)) = true := by
        refine Sm.fit (Sm.of (k := 1861) ?_ (by decide)) (sm1800 t2)
        rw [Int.natAbs_mul]
        refine Nat.lt_of_le_of_lt (Nat.mul_le_mul c1 t1) ?_
        rw [← Nat.pow_add]
        exact Nat.pow_lt_pow_right (by decide) (by decide)
      have e2 := bn_eq t (b - t) m i (by omega)
      simp only [okl0, okl1, okl2, okl3, okl4, okl5, okl6, okl7, okl8, runDf, runCore, inSl, evSs, evS, evE, evP, evT, evTs, evO, evEs, evAs, evI, evX, Res.bind, liftO, Hd.get, getA, getO, Sl.get?, store, bindF, bind1, bindL, storeL, bopD, copD, truD, b1D, b2D, idxD, slcD, augD, putC, isBox, isL, isC, getAll, Ah.get, refsOf, valsOf, putBack, outs, isX, isiD, optI, List.getElem?_cons_zero, List.getElem?_cons_succ, List.getElem?_nil, List.set_cons_zero, List.set_cons_succ, List.map_cons, List.map_nil, Option.map_some, Option.bind_some, Option.isSome_some, List.cons_append, List.nil_append, List.replicate_succ, List.replicate_zero, List.length_cons, List.length_nil, if_true, if_false, Bool.false_eq_true, reduceIte, ite_true, ite_false, w, g1, f1, e1, g2, f2, List.nodup_nil, e2]
end Dn.K69
end

section
set_option linter.all false
set_option autoImplicit false
set_option maxRecDepth 100000
set_option Elab.async false
set_option exponentiation.threshold 500000
/-! M69D: the program's tails, looks, steps. -/
namespace Dn.K69
open PySem PySem.Spec PyProof.Rows L2 Dn
theorem eq2 {a b a' b' : Int} : eqD (.tup [.int a, .int b]) (.tup [.int a', .int b']) = some (decide (a = a') && decide (b = b')) := by
  show some (PyData.eqv (.tuple [.int a, .int b]) (.tuple [.int a', .int b'])) = _
  congr 1
  simp [PyData.eqv, PyData.eqvAll]
  rfl
theorem nf_red {t b : Int} (hb : 0 < b) (h : Int.gcd t b = 1) : nfP t b = (t, b) := by
  unfold nfP
  rw [h]
  simp
theorem Q_red {t b : Int} (hb : 0 < b) (h : Int.gcd t b = 1) : Q t b = .tup [.int t, .int b] := by
  unfold Q
  rw [nf_red hb h]
/-- a chance in lowest terms -/
structure Ch (t b : Int) : Prop where
  t0 : 0 ≤ t
  tb : t ≤ b
  b0 : 0 < b
  bl : b ≤ 1000000000
  g : Int.gcd t b = 1
theorem Ch.ok {t b : Int} (h : Ch t b) {m : Nat} (hm : m ≤ 60) : Ok m t b := ⟨hm, h.t0, h.tb, h.b0, by have := h.bl; omega⟩
theorem Ch.b8 {t b : Int} (h : Ch t b) : b.natAbs < 2 ^ 8000 := Nat.lt_of_lt_of_le (show b.natAbs < 2 ^ 30 by have := h.b0; have := h.bl; omega) (Nat.pow_le_pow_right (by decide) (by decide))
theorem s_is_exact {n : Nat} (hn : 2 ≤ n) {t b : Int} (h : Ch t b) : callD Pr.dfOf n 2 [.tup [.int t, .int b]] = some (.ok (.bl true) false []) := by
  obtain ⟨k, rfl, hk⟩ := up hn
  rw [callD_def (d := d_is_exact) rfl]
  refine run_rt (Γ0 := [.sh (.tup [.int t, .int b]), .no]) rfl rfl ?_ (Γ' := [.sh (.tup [.int t, .int b]), .no]) rfl
  refine (ss_nx (Γ1 := [.sh (.tup [.int t, .int b]), .no]) rfl).trans ?_
  have c := cmp_map (cf := callD Pr.dfOf k) (Γ := [.sh (.tup [.int t, .int b]), .no]) (Γ1 := [.sh (.tup [.int t, .int b]), .no]) (xs := [.int t, .int b]) (own := [1]) (n := 2) (g := .nm 1) (it := .seq (.var 0)) (elt := .andE (.e (.bl1 (.isi .int) (.pek 1))) (.notE (.e (.bl1 (.isi .bool) (.pek 1))))) rfl rfl (fun _ => .bl true) (by simp) rfl fun x hx => by
    simp only [List.mem_cons, List.not_mem_nil, or_false] at hx
    rcases hx with rfl | rfl
    · exact ⟨_, false, _, rfl, rfl, rfl⟩
    · exact ⟨_, false, _, rfl, rfl, rfl⟩
  refine (ss_nx (Γ1 := [.sh (.tup [.int t, .int b]), .no]) ?_).trans ?_
  · simp only [okl0, okl1, okl2, okl3, okl4, okl5, okl6, okl7, okl8, runDf, runCore, inSl, evSs, evS, evE, evP, evT, evTs, evO, evEs, evAs, evI, evX, Res.bind, liftO, Hd.get, getA, getO, Sl.get?, store, bindF, bind1, bindL, storeL, bopD, copD, truD, b1D, b2D, idxD, slcD, augD, putC, isBox, isL, isC, getAll, Ah.get, refsOf, valsOf, putBack, outs, isX, isiD, optI, List.getElem?_cons_zero, List.getElem?_cons_succ, List.getElem?_nil, List.set_cons_zero, List.set_cons_succ, List.map_cons, List.map_nil, Option.map_some, Option.bind_some, Option.isSome_some, List.cons_append, List.nil_append, List.replicate_succ, List.replicate_zero, List.length_cons, List.length_nil, if_true, if_false, Bool.false_eq_true, reduceIte, ite_true, ite_false, c]
    rfl
  · have f := s_frac hk (a := t) h.b0 h.b8
    rw [Q_red h.b0 h.g] at f
    have g : decide (0 < b) = true := decide_eq_true h.b0
    simp only [okl0, okl1, okl2, okl3, okl4, okl5, okl6, okl7, okl8, runDf, runCore, inSl, evSs, evS, evE, evP, evT, evTs, evO, evEs, evAs, evI, evX, Res.bind, liftO, Hd.get, getA, getO, Sl.get?, store, bindF, bind1, bindL, storeL, bopD, copD, truD, b1D, b2D, idxD, slcD, augD, putC, isBox, isL, isC, getAll, Ah.get, refsOf, valsOf, putBack, outs, isX, isiD, optI, List.getElem?_cons_zero, List.getElem?_cons_succ, List.getElem?_nil, List.set_cons_zero, List.set_cons_succ, List.map_cons, List.map_nil, Option.map_some, Option.bind_some, Option.isSome_some, List.cons_append, List.nil_append, List.replicate_succ, List.replicate_zero, List.length_cons, List.length_nil, if_true, if_false, Bool.false_eq_true, reduceIte, ite_true, ite_false, atI0, atI1, g, f, eq2, decide_true, Bool.and_self, List.nodup_nil]
theorem s_is_fraction {n : Nat} (hn : 3 ≤ n) {t b : Int} (h : Ch t b) : callD Pr.dfOf n 3 [.tup [.int t, .int b]] = some (.ok (.bl true) false []) := by
  obtain ⟨k, rfl, hk⟩ := up hn
  rw [callD_def (d := d_is_fraction) rfl]
  have h1 := h.t0; have h2 := h.tb; have h3 := h.bl
  have a1 : decide ((-1000000000 : Int) ≤ t) = true := decide_eq_true (by omega)
  have a2 : decide (t ≤ 1000000000) = true := decide_eq_true (by omega)
  have a3 : decide (b ≤ 1000000000) = true := decide_eq_true (by omega)
  simp only [d_is_fraction, df_is_fraction, okl0, okl1, okl2, okl3, okl4, okl5, okl6, okl7, okl8, runDf, runCore, inSl, evSs, evS, evE, evP, evT, evTs, evO, evEs, evAs, evI, evX, Res.bind, liftO, Hd.get, getA, getO, Sl.get?, store, bindF, bind1, bindL, storeL, bopD, copD, truD, b1D, b2D, idxD, slcD, augD, putC, isBox, isL, isC, getAll, Ah.get, refsOf, valsOf, putBack, outs, isX, isiD, optI, List.getElem?_cons_zero, List.getElem?_cons_succ, List.getElem?_nil, List.set_cons_zero, List.set_cons_succ, List.map_cons, List.map_nil, Option.map_some, Option.bind_some, Option.isSome_some, List.cons_append, List.nil_append, List.replicate_succ, List.replicate_zero, List.length_cons, List.length_nil, if_true, if_false, Bool.false_eq_true, reduceIte, ite_true, ite_false, atI0, atI1, s_is_exact hk h, s_is_int (show 1 ≤ k by omega), a1, a2, a3, Bool.and_self, List.nodup_nil]
theorem s_is_price {n : Nat} (hn : 4 ≤ n) {t b : Int} (h : Ch t b) : callD Pr.dfOf n 4 [.tup [.int t, .int b]] = some (.ok (.bl true) false []) := by
  obtain ⟨k, rfl, hk⟩ := up hn
  rw [callD_def (d := d_is_price) rfl]
  have a1 : decide ((0 : Int) ≤ t) = true := decide_eq_true h.t0
  simp only [d_is_price, df_is_price, okl0, okl1, okl2, okl3, okl4, okl5, okl6, okl7, okl8, runDf, runCore, inSl, evSs, evS, evE, evP, evT, evTs, evO, evEs, evAs, evI, evX, Res.bind, liftO, Hd.get, getA, getO, Sl.get?, store, bindF, bind1, bindL, storeL, bopD, copD, truD, b1D, b2D, idxD, slcD, augD, putC, isBox, isL, isC, getAll, Ah.get, refsOf, valsOf, putBack, outs, isX, isiD, optI, List.getElem?_cons_zero, List.getElem?_cons_succ, List.getElem?_nil, List.set_cons_zero, List.set_cons_succ, List.map_cons, List.map_nil, Option.map_some, Option.bind_some, Option.isSome_some, List.cons_append, List.nil_append, List.replicate_succ, List.replicate_zero, List.length_cons, List.length_nil, if_true, if_false, Bool.false_eq_true, reduceIte, ite_true, ite_false, atI0, atI1, s_is_fraction hk h, a1, List.nodup_nil]
theorem s_is_chance {n : Nat} (hn : 5 ≤ n) {t b : Int} (h : Ch t b) : callD Pr.dfOf n 5 [.tup [.int t, .int b]] = some (.ok (.bl true) false []) := by
  obtain ⟨k, rfl, hk⟩ := up hn
  rw [callD_def (d := d_is_chance) rfl]
  have a1 : decide (t ≤ b) = true := decide_eq_true h.tb
  simp only [d_is_chance, df_is_chance, okl0, okl1, okl2, okl3, okl4, okl5, okl6, okl7, okl8, runDf, runCore, inSl, evSs, evS, evE, evP, evT, evTs, evO, evEs, evAs, evI, evX, Res.bind, liftO, Hd.get, getA, getO, Sl.get?, store, bindF, bind1, bindL, storeL, bopD, copD, truD, b1D, b2D, idxD, slcD, augD, putC, isBox, isL, isC, getAll, Ah.get, refsOf, valsOf, putBack, outs, isX, isiD, optI, List.getElem?_cons_zero, List.getElem?_cons_succ, List.getElem?_nil, List.set_cons_zero, List.set_cons_succ, List.map_cons, List.map_nil, Option.map_some, Option.bind_some, Option.isSome_some, List.cons_append, List.nil_append, List.replicate_succ, List.replicate_zero, List.length_cons, List.length_nil, if_true, if_false, Bool.false_eq_true, reduceIte, ite_true, ite_false, atI0, atI1, s_is_price hk h, a1, List.nodup_nil]
theorem s_look_chance {n : Nat} (hn : 6 ≤ n) {t b : Int} (h : Ch t b) : callD Pr.dfOf n 6 [.tup [.int t, .int b]] = some (.ok .non false []) := by
  obtain ⟨k, rfl, hk⟩ := up hn
  rw [callD_def (d := d_look_at_chance) rfl]
  simp only [d_look_at_chance, df_look_at_chance, okl0, okl1, okl2, okl3, okl4, okl5, okl6, okl7, okl8, runDf, runCore, inSl, evSs, evS, evE, evP, evT, evTs, evO, evEs, evAs, evI, evX, Res.bind, liftO, Hd.get, getA, getO, Sl.get?, store, bindF, bind1, bindL, storeL, bopD, copD, truD, b1D, b2D, idxD, slcD, augD, putC, isBox, isL, isC, getAll, Ah.get, refsOf, valsOf, putBack, outs, isX, isiD, optI, List.getElem?_cons_zero, List.getElem?_cons_succ, List.getElem?_nil, List.set_cons_zero, List.set_cons_succ, List.map_cons, List.map_nil, Option.map_some, Option.bind_some, Option.isSome_some, List.cons_append, List.nil_append, List.replicate_succ, List.replicate_zero, List.length_cons, List.length_nil, if_true, if_false, Bool.false_eq_true, reduceIte, ite_true, ite_false, s_is_chance hk h, Bool.not_true, List.nodup_nil]
/-- an error: a chance between none and one -/
structure Er (t b : Int) : Prop extends Ch t b where
  t1 : 0 < t
  b1 : t < b
theorem s_look_error {n : Nat} (hn : 6 ≤ n) {t b : Int} (h : Er t b) : callD Pr.dfOf n 16 [.tup [.int t, .int b]] = some (.ok .non false []) := by
  obtain ⟨k, rfl, hk⟩ := up hn
  rw [callD_def (d := d_look_at_error) rfl]
  have h1 := h.t1; have h2 := h.b1
  have e : inD (.tup [.int t, .int b]) [.tup [.int 0, .int 1], .tup [.int 1, .int 1]] = some false := by
    show some ([PyData.tuple [.int 0, .int 1], PyData.tuple [.int 1, .int 1]].any fun y => PyData.eqv y (.tuple [.int t, .int b])) = _
    congr 1
    simp [PyData.eqv, PyData.eqvAll]
    omega
  simp only [d_look_at_error, df_look_at_error, okl0, okl1, okl2, okl3, okl4, okl5, okl6, okl7, okl8, runDf, runCore, inSl, evSs, evS, evE, evP, evT, evTs, evO, evEs, evAs, evI, evX, Res.bind, liftO, Hd.get, getA, getO, Sl.get?, store, bindF, bind1, bindL, storeL, bopD, copD, truD, b1D, b2D, idxD, slcD, augD, putC, isBox, isL, isC, getAll, Ah.get, refsOf, valsOf, putBack, outs, isX, isiD, optI, List.getElem?_cons_zero, List.getElem?_cons_succ, List.getElem?_nil, List.set_cons_zero, List.set_cons_succ, List.map_cons, List.map_nil, Option.map_some, Option.bind_some, Option.isSome_some, List.cons_append, List.nil_append, List.replicate_succ, List.replicate_zero, List.length_cons, List.length_nil, if_true, if_false, Bool.false_eq_true, reduceIte, ite_true, ite_false, s_is_chance hk h.toCh, e, Bool.not_true, List.nodup_nil]
theorem s_look_seen {n : Nat} (hn : 2 ≤ n) {m s : Nat} (h1 : 1 ≤ m) (h2 : m ≤ 60) (h3 : s ≤ m) : callD Pr.dfOf n 13 [.int m, .int s] = some (.ok .non false []) := by
  obtain ⟨k, rfl, hk⟩ := up hn
  rw [callD_def (d := d_look_at_seen) rfl]
  have a1 : decide ((1 : Int) ≤ (m : Int)) = true := decide_eq_true (by omega)
  have a2 : decide ((m : Int) ≤ 60) = true := decide_eq_true (by omega)
  have a3 : decide ((0 : Int) ≤ (s : Int)) = true := decide_eq_true (by omega)
  have a4 : decide ((s : Int) ≤ (m : Int)) = true := decide_eq_true (by omega)
  simp only [d_look_at_seen, df_look_at_seen, okl0, okl1, okl2, okl3, okl4, okl5, okl6, okl7, okl8, runDf, runCore, inSl, evSs, evS, evE, evP, evT, evTs, evO, evEs, evAs, evI, evX, Res.bind, liftO, Hd.get, getA, getO, Sl.get?, store, bindF, bind1, bindL, storeL, bopD, copD, truD, b1D, b2D, idxD, slcD, augD, putC, isBox, isL, isC, getAll, Ah.get, refsOf, valsOf, putBack, outs, isX, isiD, optI, List.getElem?_cons_zero, List.getElem?_cons_succ, List.getElem?_nil, List.set_cons_zero, List.set_cons_succ, List.map_cons, List.map_nil, Option.map_some, Option.bind_some, Option.isSome_some, List.cons_append, List.nil_append, List.replicate_succ, List.replicate_zero, List.length_cons, List.length_nil, if_true, if_false, Bool.false_eq_true, reduceIte, ite_true, ite_false, s_is_int hk, a1, a2, a3, a4, Bool.and_self, Bool.not_true, List.nodup_nil]
/-! ### tails -/
/-- from s on; up to s -/
def hi (t u : Int) (m s : Nat) : Int := sm (bn t u m) (m + 1) - sm (bn t u m) s
def lo (t u : Int) (m s : Nat) : Int := sm (bn t u m) (s + 1)
theorem powB {m : Nat} {t b : Int} (h : Ok m t b) : 0 < b ^ m ∧ (b ^ m).natAbs ≤ 2 ^ 1800 := ⟨Int.pow_pos h.b0, pow_sm h.ba h.m⟩
theorem b18 {x : Int} (h : x.natAbs ≤ 2 ^ 1800) : x.natAbs < 2 ^ 8000 := Nat.lt_of_le_of_lt h (Nat.pow_lt_pow_right (by decide) (by decide))
theorem cutL (f : Nat → Int) {s n : Nat} (h : s ≤ n) : intL (cutD (((List.range n).map f).map .int) (some (s : Int)) none) = some (((List.range n).map f).drop s) := by
  rw [cut_from, ← List.map_drop, intL_map]
theorem cutT (f : Nat → Int) {s n : Nat} : intL (cutD (((List.range n).map f).map .int) none (some (s : Int))) = some (((List.range n).map f).take s) := by
  rw [cut_to, ← List.map_take, intL_map]
theorem hi_sum (t u : Int) {m s : Nat} (h : s ≤ m + 1) : (((List.range (m + 1)).map (bn t u m)).drop s).sum = hi t u m s := by
  rw [drop_sum _ _ _ h, sum_map_range, sum_map_range]
  rfl
theorem lo_sum (t u : Int) {m s : Nat} (h : s ≤ m) : (((List.range (m + 1)).map (bn t u m)).take (s + 1)).sum = lo t u m s := by
  rw [take_sum _ _ _ (by omega), sum_map_range]
  rfl
theorem s_at_least {n : Nat} (hn : 3 ≤ n) {m s : Nat} {t b : Int} (h : Ok m t b) (hs : s ≤ m) : callD Pr.dfOf n 11 [.int m, .int s, .tup [.int t, .int b]] = some (.ok (Q (hi t (b - t) m s) (b ^ m)) false []) := by
  obtain ⟨k, rfl, hk⟩ := up hn
  rw [callD_def (d := d_told_at_least) rfl]
  have p := s_parts hk h
  have f := s_frac (n := k) (by omega) (a := hi t (b - t) m s) (powB h).1 (b18 (powB h).2)
  have c := cutL (bn t (b - t) m) (show s ≤ m + 1 by omega)
  have e := hi_sum t (b - t) (show s ≤ m + 1 by omega)
  simp only [d_told_at_least, df_told_at_least, okl0, okl1, okl2, okl3, okl4, okl5, okl6, okl7, okl8, runDf, runCore, inSl, evSs, evS, evE, evP, evT, evTs, evO, evEs, evAs, evI, evX, Res.bind, liftO, Hd.get, getA, getO, Sl.get?, store, bindF, bind1, bindL, storeL, bopD, copD, truD, b1D, b2D, idxD, slcD, augD, putC, isBox, isL, isC, getAll, Ah.get, refsOf, valsOf, putBack, outs, isX, isiD, optI, List.getElem?_cons_zero, List.getElem?_cons_succ, List.getElem?_nil, List.set_cons_zero, List.set_cons_succ, List.map_cons, List.map_nil, Option.map_some, Option.bind_some, Option.isSome_some, List.cons_append, List.nil_append, List.replicate_succ, List.replicate_zero, List.length_cons, List.length_nil, if_true, if_false, Bool.false_eq_true, reduceIte, ite_true, ite_false, p, c, e, f, List.nodup_nil]
theorem s_no_more {n : Nat} (hn : 3 ≤ n) {m s : Nat} {t b : Int} (h : Ok m t b) (hs : s ≤ m) : callD Pr.dfOf n 12 [.int m, .int s, .tup [.int t, .int b]] = some (.ok (Q (lo t (b - t) m s) (b ^ m)) false []) := by
  obtain ⟨k, rfl, hk⟩ := up hn
  rw [callD_def (d := d_told_no_more) rfl]
  have p := s_parts hk h
  have f := s_frac (n := k) (by omega) (a := lo t (b - t) m s) (powB h).1 (b18 (powB h).2)
  have c := cutT (bn t (b - t) m) (s := s + 1) (n := m + 1)
  have e := lo_sum t (b - t) hs
  have e1 : ((s : Int) + 1) = ((s + 1 : Nat) : Int) := rfl
  simp only [d_told_no_more, df_told_no_more, okl0, okl1, okl2, okl3, okl4, okl5, okl6, okl7, okl8, runDf, runCore, inSl, evSs, evS, evE, evP, evT, evTs, evO, evEs, evAs, evI, evX, Res.bind, liftO, Hd.get, getA, getO, Sl.get?, store, bindF, bind1, bindL, storeL, bopD, copD, truD, b1D, b2D, idxD, slcD, augD, putC, isBox, isL, isC, getAll, Ah.get, refsOf, valsOf, putBack, outs, isX, isiD, optI, List.getElem?_cons_zero, List.getElem?_cons_succ, List.getElem?_nil, List.set_cons_zero, List.set_cons_succ, List.map_cons, List.map_nil, Option.map_some, Option.bind_some, Option.isSome_some, List.cons_append, List.nil_append, List.replicate_succ, List.replicate_zero, List.length_cons, List.length_nil, if_true, if_false, Bool.false_eq_true, reduceIte, ite_true, ite_false, p, e1, c, e, f, List.nodup_nil]
end Dn.K69
end

section
set_option linter.all false
set_option autoImplicit false
set_option maxRecDepth 100000
set_option Elab.async false
set_option exponentiation.threshold 500000
/-! M69E: the program's stretches. -/
namespace Dn.K69
open PySem PySem.Spec PyProof.Rows L2 Dn
section
variable {m s : Nat} {t b : Int}
theorem tot (h : Ok m t b) : sm (bn t (b - t) m) (m + 1) = b ^ m := by
  rw [bn_sum, show t + (b - t) = b by omega]
theorem hi_b (h : Ok m t b) (hs : s ≤ m + 1) : 0 ≤ hi t (b - t) m s ∧ hi t (b - t) m s ≤ b ^ m := by
  have n := bn_nonneg h.t0 (show 0 ≤ b - t by have := h.tb; omega) m
  have h1 := sm_mono n hs
  have h2 := sm_nonneg n s
  unfold hi
  rw [tot h] at h1 ⊢
  omega
theorem lo_b (h : Ok m t b) (hs : s ≤ m) : 0 ≤ lo t (b - t) m s ∧ lo t (b - t) m s ≤ b ^ m := by
  have n := bn_nonneg h.t0 (show 0 ≤ b - t by have := h.tb; omega) m
  have h1 := sm_mono n (show s + 1 ≤ m + 1 by omega)
  have h2 := sm_nonneg n (s + 1)
  unfold lo
  rw [tot h] at h1
  omega
theorem sm_le {x y : Int} (h : 0 ≤ x ∧ x ≤ y) (hy : y.natAbs ≤ 2 ^ 1800) : x.natAbs ≤ 2 ^ 1800 := by omega
/-- in the stretch -/
def inS (t u : Int) (m s : Nat) (w e0 e1 : Int) : Bool := decide (e0 * w ≤ hi t u m s * 2 * e1) && decide (e0 * w ≤ lo t u m s * 2 * e1)
theorem Er.s0 {e0 e1 : Int} (h : Er e0 e1) : Sm e0 ∧ Sm e1 := by
  have := h.t1; have := h.b1; have := h.bl
  exact ⟨Sm.of (k := 30) (by omega) (by decide), Sm.of (k := 30) (by omega) (by decide)⟩
theorem sm2 {x : Int} (h : x.natAbs ≤ 2 ^ 1800) : Sm (x * 2) := by
  refine Sm.of (k := 1802) ?_ (by decide)
  rw [Int.natAbs_mul, show 1802 = 1800 + 2 from rfl, Nat.pow_add]
  have : (2 : Int).natAbs = 2 := rfl
  rw [this]
  have : (0 : Nat) < 2 ^ 1800 := Nat.pow_pos (by decide)
  generalize 2 ^ 1800 = z at *
  omega
theorem two_sm : Sm 2 := Sm.of (k := 2) (by decide) (by decide)
theorem s_is_in {n : Nat} (hn : 1 ≤ n) {e0 e1 : Int} (h : Ok m t b) (he : Er e0 e1) (hs : s ≤ m) :
    callD Pr.dfOf n 17 [.lst (((List.range (m + 1)).map (bn t (b - t) m)).map .int), .int (b ^ m), .int s, .tup [.int e0, .int e1]] = some (.ok (.bl (inS t (b - t) m s (b ^ m) e0 e1)) false []) := by
  obtain ⟨k, rfl, hk⟩ := up hn
  rw [callD_def (d := d_told_is_in) rfl]
  have c := cutL (bn t (b - t) m) (show s ≤ m + 1 by omega)
  have e := hi_sum t (b - t) (show s ≤ m + 1 by omega)
  have c' := cutT (bn t (b - t) m) (s := s + 1) (n := m + 1)
  have e' := lo_sum t (b - t) hs
  have es : ((s : Int) + 1) = ((s + 1 : Nat) : Int) := rfl
  obtain ⟨p1, p2⟩ := powB h
  have bh := sm_le (hi_b h (show s ≤ m + 1 by omega)) p2
  have bl := sm_le (lo_b h hs) p2
  have f0 : fitMul e0 (b ^ m) = true := he.s0.1.fit (sm1800 p2)
  have f1 : fitMul (hi t (b - t) m s) 2 = true := (sm1800 bh).fit two_sm
  have f2 : fitMul (hi t (b - t) m s * 2) e1 = true := (sm2 bh).fit he.s0.2
  have f3 : fitMul (lo t (b - t) m s) 2 = true := (sm1800 bl).fit two_sm
  have f4 : fitMul (lo t (b - t) m s * 2) e1 = true := (sm2 bl).fit he.s0.2
  have g : decide (hi t (b - t) m s * 2 * e1 < e0 * b ^ m) = !decide (e0 * b ^ m ≤ hi t (b - t) m s * 2 * e1) := by
    rw [← decide_not]; exact decide_eq_decide.mpr (by omega)
  unfold inS
  cases hd : decide (e0 * b ^ m ≤ hi t (b - t) m s * 2 * e1) with
  | true =>
    rw [hd] at g
    simp only [d_told_is_in, df_told_is_in, okl0, okl1, okl2, okl3, okl4, okl5, okl6, okl7, okl8, runDf, runCore, inSl, evSs, evS, evE, evP, evT, evTs, evO, evEs, evAs, evI, evX, Res.bind, liftO, Hd.get, getA, getO, Sl.get?, store, bindF, bind1, bindL, storeL, bopD, copD, truD, b1D, b2D, idxD, slcD, augD, putC, isBox, isL, isC, getAll, Ah.get, refsOf, valsOf, putBack, outs, isX, isiD, optI, List.getElem?_cons_zero, List.getElem?_cons_succ, List.getElem?_nil, List.set_cons_zero, List.set_cons_succ, List.map_cons, List.map_nil, Option.map_some, Option.bind_some, Option.isSome_some, List.cons_append, List.nil_append, List.replicate_succ, List.replicate_zero, List.length_cons, List.length_nil, if_true, if_false, Bool.false_eq_true, reduceIte, ite_true, ite_false, atI0, atI1, c, e, es, c', e', f0, f1, f2, f3, f4, g, Bool.not_true, Bool.true_and]
  | false =>
    rw [hd] at g
    simp only [d_told_is_in, df_told_is_in, okl0, okl1, okl2, okl3, okl4, okl5, okl6, okl7, okl8, runDf, runCore, inSl, evSs, evS, evE, evP, evT, evTs, evO, evEs, evAs, evI, evX, Res.bind, liftO, Hd.get, getA, getO, Sl.get?, store, bindF, bind1, bindL, storeL, bopD, copD, truD, b1D, b2D, idxD, slcD, augD, putC, isBox, isL, isC, getAll, Ah.get, refsOf, valsOf, putBack, outs, isX, isiD, optI, List.getElem?_cons_zero, List.getElem?_cons_succ, List.getElem?_nil, List.set_cons_zero, List.set_cons_succ, List.map_cons, List.map_nil, Option.map_some, Option.bind_some, Option.isSome_some, List.cons_append, List.nil_append, List.replicate_succ, List.replicate_zero, List.length_cons, List.length_nil, if_true, if_false, Bool.false_eq_true, reduceIte, ite_true, ite_false, atI0, atI1, c, e, es, c', e', f0, f1, f2, f3, f4, g, Bool.not_false, Bool.false_and]
theorem s_stretch {n : Nat} (hn : 7 ≤ n) {e0 e1 : Int} (h : Ch t b) (hm1 : 1 ≤ m) (hm : m ≤ 60) (he : Er e0 e1) (hs : s ≤ m) :
    callD Pr.dfOf n 18 [.int m, .int s, .tup [.int e0, .int e1], .tup [.int t, .int b]] = some (.ok (.bl (inS t (b - t) m s (b ^ m) e0 e1)) false []) := by
  obtain ⟨k, rfl, hk⟩ := up hn
  rw [callD_def (d := d_is_in_stretch) rfl]
  simp only [d_is_in_stretch, df_is_in_stretch, okl0, okl1, okl2, okl3, okl4, okl5, okl6, okl7, okl8, runDf, runCore, inSl, evSs, evS, evE, evP, evT, evTs, evO, evEs, evAs, evI, evX, Res.bind, liftO, Hd.get, getA, getO, Sl.get?, store, bindF, bind1, bindL, storeL, bopD, copD, truD, b1D, b2D, idxD, slcD, augD, putC, isBox, isL, isC, getAll, Ah.get, refsOf, valsOf, putBack, outs, isX, isiD, optI, List.getElem?_cons_zero, List.getElem?_cons_succ, List.getElem?_nil, List.set_cons_zero, List.set_cons_succ, List.map_cons, List.map_nil, Option.map_some, Option.bind_some, Option.isSome_some, List.cons_append, List.nil_append, List.replicate_succ, List.replicate_zero, List.length_cons, List.length_nil, if_true, if_false, Bool.false_eq_true, reduceIte, ite_true, ite_false, s_look_seen (show 2 ≤ k by omega) hm1 hm hs, s_look_error hk he, s_look_chance hk h, s_parts (show 2 ≤ k by omega) (h.ok hm), s_is_in (show 1 ≤ k by omega) (h.ok hm) he hs, List.nodup_nil, List.isEmpty_nil]
theorem s_chance_at_least {n : Nat} (hn : 7 ≤ n) (h : Ch t b) (hm1 : 1 ≤ m) (hm : m ≤ 60) (hs : s ≤ m) :
    callD Pr.dfOf n 14 [.int m, .int s, .tup [.int t, .int b]] = some (.ok (Q (hi t (b - t) m s) (b ^ m)) false []) := by
  obtain ⟨k, rfl, hk⟩ := up hn
  rw [callD_def (d := d_chance_at_least) rfl]
  simp only [d_chance_at_least, df_chance_at_least, okl0, okl1, okl2, okl3, okl4, okl5, okl6, okl7, okl8, runDf, runCore, inSl, evSs, evS, evE, evP, evT, evTs, evO, evEs, evAs, evI, evX, Res.bind, liftO, Hd.get, getA, getO, Sl.get?, store, bindF, bind1, bindL, storeL, bopD, copD, truD, b1D, b2D, idxD, slcD, augD, putC, isBox, isL, isC, getAll, Ah.get, refsOf, valsOf, putBack, outs, isX, isiD, optI, List.getElem?_cons_zero, List.getElem?_cons_succ, List.getElem?_nil, List.set_cons_zero, List.set_cons_succ, List.map_cons, List.map_nil, Option.map_some, Option.bind_some, Option.isSome_some, List.cons_append, List.nil_append, List.replicate_succ, List.replicate_zero, List.length_cons, List.length_nil, if_true, if_false, Bool.false_eq_true, reduceIte, ite_true, ite_false, s_look_seen (show 2 ≤ k by omega) hm1 hm hs, s_look_chance hk h, s_at_least (show 3 ≤ k by omega) (h.ok hm) hs, List.nodup_nil, List.isEmpty_nil]
theorem s_chance_no_more {n : Nat} (hn : 7 ≤ n) (h : Ch t b) (hm1 : 1 ≤ m) (hm : m ≤ 60) (hs : s ≤ m) :
    callD Pr.dfOf n 15 [.int m, .int s, .tup [.int t, .int b]] = some (.ok (Q (lo t (b - t) m s) (b ^ m)) false []) := by
  obtain ⟨k, rfl, hk⟩ := up hn
  rw [callD_def (d := d_chance_no_more) rfl]
  simp only [d_chance_no_more, df_chance_no_more, okl0, okl1, okl2, okl3, okl4, okl5, okl6, okl7, okl8, runDf, runCore, inSl, evSs, evS, evE, evP, evT, evTs, evO, evEs, evAs, evI, evX, Res.bind, liftO, Hd.get, getA, getO, Sl.get?, store, bindF, bind1, bindL, storeL, bopD, copD, truD, b1D, b2D, idxD, slcD, augD, putC, isBox, isL, isC, getAll, Ah.get, refsOf, valsOf, putBack, outs, isX, isiD, optI, List.getElem?_cons_zero, List.getElem?_cons_succ, List.getElem?_nil, List.set_cons_zero, List.set_cons_succ, List.map_cons, List.map_nil, Option.map_some, Option.bind_some, Option.isSome_some, List.cons_append, List.nil_append, List.replicate_succ, List.replicate_zero, List.length_cons, List.length_nil, if_true, if_false, Bool.false_eq_true, reduceIte, ite_true, ite_false, s_look_seen (show 2 ≤ k by omega) hm1 hm hs, s_look_chance hk h, s_no_more (show 3 ≤ k by omega) (h.ok hm) hs, List.nodup_nil, List.isEmpty_nil]
/-- what lies in the stretch -/
def fitsL (t u : Int) (m : Nat) (w e0 e1 : Int) : List D := (List.range (m + 1)).filterMap fun s => if inS t u m s w e0 e1 then some (.int s) else none
theorem s_seen_in {n : Nat} (hn : 7 ≤ n) {e0 e1 : Int} (h : Ch t b) (hm1 : 1 ≤ m) (hm : m ≤ 60) (he : Er e0 e1) :
    callD Pr.dfOf n 22 [.int m, .tup [.int e0, .int e1], .tup [.int t, .int b]] = some (.ok (.tup (fitsL t (b - t) m (b ^ m) e0 e1)) false []) := by
  obtain ⟨k, rfl, hk⟩ := up hn
  rw [callD_def (d := d_seen_in) rfl]
  have a1 : decide ((1 : Int) ≤ (m : Int)) = true := decide_eq_true (by omega)
  have a2 : decide ((m : Int) ≤ 60) = true := decide_eq_true (by omega)
  refine run_rt (Γ0 := [.sh (.int m), .sh (.tup [.int e0, .int e1]), .sh (.tup [.int t, .int b]), .no, .no, .no]) rfl rfl ?_ (Γ' := [.sh (.int m), .sh (.tup [.int e0, .int e1]), .sh (.tup [.int t, .int b]), .sh (.lst (((List.range (m + 1)).map (bn t (b - t) m)).map .int)), .sh (.int (b ^ m)), .no]) rfl
  refine (ss_nx (Γ1 := [.sh (.int m), .sh (.tup [.int e0, .int e1]), .sh (.tup [.int t, .int b]), .no, .no, .no]) (by simp only [okl0, okl1, okl2, okl3, okl4, okl5, okl6, okl7, okl8, runDf, runCore, inSl, evSs, evS, evE, evP, evT, evTs, evO, evEs, evAs, evI, evX, Res.bind, liftO, Hd.get, getA, getO, Sl.get?, store, bindF, bind1, bindL, storeL, bopD, copD, truD, b1D, b2D, idxD, slcD, augD, putC, isBox, isL, isC, getAll, Ah.get, refsOf, valsOf, putBack, outs, isX, isiD, optI, List.getElem?_cons_zero, List.getElem?_cons_succ, List.getElem?_nil, List.set_cons_zero, List.set_cons_succ, List.map_cons, List.map_nil, Option.map_some, Option.bind_some, Option.isSome_some, List.cons_append, List.nil_append, List.replicate_succ, List.replicate_zero, List.length_cons, List.length_nil, if_true, if_false, Bool.false_eq_true, reduceIte, ite_true, ite_false, s_is_int (show 1 ≤ k by omega), a1, a2, Bool.and_self, Bool.not_true, List.nodup_nil])).trans ?_
  refine (ss_nx (Γ1 := [.sh (.int m), .sh (.tup [.int e0, .int e1]), .sh (.tup [.int t, .int b]), .no, .no, .no]) (by simp only [okl0, okl1, okl2, okl3, okl4, okl5, okl6, okl7, okl8, runDf, runCore, inSl, evSs, evS, evE, evP, evT, evTs, evO, evEs, evAs, evI, evX, Res.bind, liftO, Hd.get, getA, getO, Sl.get?, store, bindF, bind1, bindL, storeL, bopD, copD, truD, b1D, b2D, idxD, slcD, augD, putC, isBox, isL, isC, getAll, Ah.get, refsOf, valsOf, putBack, outs, isX, isiD, optI, List.getElem?_cons_zero, List.getElem?_cons_succ, List.getElem?_nil, List.set_cons_zero, List.set_cons_succ, List.map_cons, List.map_nil, Option.map_some, Option.bind_some, Option.isSome_some, List.cons_append, List.nil_append, List.replicate_succ, List.replicate_zero, List.length_cons, List.length_nil, if_true, if_false, Bool.false_eq_true, reduceIte, ite_true, ite_false, s_look_error hk he, List.nodup_nil, List.isEmpty_nil])).trans ?_
  refine (ss_nx (Γ1 := [.sh (.int m), .sh (.tup [.int e0, .int e1]), .sh (.tup [.int t, .int b]), .no, .no, .no]) (by simp only [okl0, okl1, okl2, okl3, okl4, okl5, okl6, okl7, okl8, runDf, runCore, inSl, evSs, evS, evE, evP, evT, evTs, evO, evEs, evAs, evI, evX, Res.bind, liftO, Hd.get, getA, getO, Sl.get?, store, bindF, bind1, bindL, storeL, bopD, copD, truD, b1D, b2D, idxD, slcD, augD, putC, isBox, isL, isC, getAll, Ah.get, refsOf, valsOf, putBack, outs, isX, isiD, optI, List.getElem?_cons_zero, List.getElem?_cons_succ, List.getElem?_nil, List.set_cons_zero, List.set_cons_succ, List.map_cons, List.map_nil, Option.map_some, Option.bind_some, Option.isSome_some, List.cons_append, List.nil_append, List.replicate_succ, List.replicate_zero, List.length_cons, List.length_nil, if_true, if_false, Bool.false_eq_true, reduceIte, ite_true, ite_false, s_look_chance hk h, List.nodup_nil, List.isEmpty_nil])).trans ?_
  refine (ss_nx (Γ1 := [.sh (.int m), .sh (.tup [.int e0, .int e1]), .sh (.tup [.int t, .int b]), .sh (.lst (((List.range (m + 1)).map (bn t (b - t) m)).map .int)), .sh (.int (b ^ m)), .no]) (by simp only [okl0, okl1, okl2, okl3, okl4, okl5, okl6, okl7, okl8, runDf, runCore, inSl, evSs, evS, evE, evP, evT, evTs, evO, evEs, evAs, evI, evX, Res.bind, liftO, Hd.get, getA, getO, Sl.get?, store, bindF, bind1, bindL, storeL, bopD, copD, truD, b1D, b2D, idxD, slcD, augD, putC, isBox, isL, isC, getAll, Ah.get, refsOf, valsOf, putBack, outs, isX, isiD, optI, List.getElem?_cons_zero, List.getElem?_cons_succ, List.getElem?_nil, List.set_cons_zero, List.set_cons_succ, List.map_cons, List.map_nil, Option.map_some, Option.bind_some, Option.isSome_some, List.cons_append, List.nil_append, List.replicate_succ, List.replicate_zero, List.length_cons, List.length_nil, if_true, if_false, Bool.false_eq_true, reduceIte, ite_true, ite_false, s_parts (show 2 ≤ k by omega) (h.ok hm), List.nodup_nil, List.isEmpty_nil])).trans ?_
  have c := cmp_rngF (cf := callD Pr.dfOf k) (Γ := [.sh (.int m), .sh (.tup [.int e0, .int e1]), .sh (.tup [.int t, .int b]), .sh (.lst (((List.range (m + 1)).map (bn t (b - t) m)).map .int)), .sh (.int (b ^ m)), .no]) (Γ1 := [.sh (.int m), .sh (.tup [.int e0, .int e1]), .sh (.tup [.int t, .int b]), .sh (.lst (((List.range (m + 1)).map (bn t (b - t) m)).map .int)), .sh (.int (b ^ m)), .no]) (Γ2 := [.sh (.int m), .sh (.tup [.int e0, .int e1]), .sh (.tup [.int t, .int b]), .sh (.lst (((List.range (m + 1)).map (bn t (b - t) m)).map .int)), .sh (.int (b ^ m)), .no]) (own := [5]) (n := 6) (g := .nm 5) (it := .rng1 (.e (.bin .add (.pek 0) (.e (.cst (.int 1)))))) (elt := .var 5) (t := .val (.e (.cal 17 (.val (.var 3) (.val (.var 4) (.val (.var 5) (.val (.var 1) (.nil))))))))
    (ev_rng1 (k := m + 1) (ev_P (fr := false) rfl) rfl (by omega)) rfl (fun s => if inS t (b - t) m s (b ^ m) e0 e1 then some (.int s) else none) (by omega) rfl fun i hi => by
      refine ⟨[.sh (.int m), .sh (.tup [.int e0, .int e1]), .sh (.tup [.int t, .int b]), .sh (.lst (((List.range (m + 1)).map (bn t (b - t) m)).map .int)), .sh (.int (b ^ m)), .sh (.int i)], inS t (b - t) m i (b ^ m) e0 e1, [.sh (.int m), .sh (.tup [.int e0, .int e1]), .sh (.tup [.int t, .int b]), .sh (.lst (((List.range (m + 1)).map (bn t (b - t) m)).map .int)), .sh (.int (b ^ m)), .sh (.int i)], rfl, ?_, ?_⟩
      · simp only [okl0, okl1, okl2, okl3, okl4, okl5, okl6, okl7, okl8, runDf, runCore, inSl, evSs, evS, evE, evP, evT, evTs, evO, evEs, evAs, evI, evX, Res.bind, liftO, Hd.get, getA, getO, Sl.get?, store, bindF, bind1, bindL, storeL, bopD, copD, truD, b1D, b2D, idxD, slcD, augD, putC, isBox, isL, isC, getAll, Ah.get, refsOf, valsOf, putBack, outs, isX, isiD, optI, List.getElem?_cons_zero, List.getElem?_cons_succ, List.getElem?_nil, List.set_cons_zero, List.set_cons_succ, List.map_cons, List.map_nil, Option.map_some, Option.bind_some, Option.isSome_some, List.cons_append, List.nil_append, List.replicate_succ, List.replicate_zero, List.length_cons, List.length_nil, if_true, if_false, Bool.false_eq_true, reduceIte, ite_true, ite_false, s_is_in (show 1 ≤ k by omega) (h.ok hm) he (show i ≤ m by omega), List.nodup_nil]
      · cases inS t (b - t) m i (b ^ m) e0 e1 with
        | true => exact ⟨_, false, _, rfl, rfl, rfl⟩
        | false => exact ⟨rfl, rfl⟩
  exact ss_rt (e_ret (ev_bl1 (r := .tup (fitsL t (b - t) m (b ^ m) e0 e1)) c rfl))
/-- what is left out, in all -/
def outL (t u : Int) (m : Nat) (w e0 e1 : Int) : List Int := (List.range (m + 1)).filterMap fun s => if inS t u m s w e0 e1 then none else some (bn t u m s)
theorem out_map (t u : Int) (m : Nat) (w e0 e1 : Int) : (List.range (m + 1)).filterMap (fun s => if inS t u m s w e0 e1 then none else some (D.int (bn t u m s))) = (outL t u m w e0 e1).map .int := by
  unfold outL
  rw [List.map_filterMap]
  congr 1
  funext s
  cases inS t u m s w e0 e1 <;> rfl
theorem s_left_out {n : Nat} (hn : 7 ≤ n) {e0 e1 : Int} (h : Ch t b) (hm1 : 1 ≤ m) (hm : m ≤ 60) (he : Er e0 e1) :
    callD Pr.dfOf n 21 [.int m, .tup [.int e0, .int e1], .tup [.int t, .int b]] = some (.ok (Q (outL t (b - t) m (b ^ m) e0 e1).sum (b ^ m)) false []) := by
  obtain ⟨k, rfl, hk⟩ := up hn
  rw [callD_def (d := d_left_out) rfl]
  have a1 : decide ((1 : Int) ≤ (m : Int)) = true := decide_eq_true (by omega)
  have a2 : decide ((m : Int) ≤ 60) = true := decide_eq_true (by omega)
  refine run_rt (Γ0 := [.sh (.int m), .sh (.tup [.int e0, .int e1]), .sh (.tup [.int t, .int b]), .no, .no, .no, .no, .no]) rfl rfl ?_ (Γ' := [.sh (.int m), .sh (.tup [.int e0, .int e1]), .sh (.tup [.int t, .int b]), .sh (.lst (((List.range (m + 1)).map (bn t (b - t) m)).map .int)), .sh (.int (b ^ m)), .ow (.lst ((outL t (b - t) m (b ^ m) e0 e1).map .int)), .no, .no]) rfl
  refine (ss_nx (Γ1 := [.sh (.int m), .sh (.tup [.int e0, .int e1]), .sh (.tup [.int t, .int b]), .no, .no, .no, .no, .no]) (by simp only [okl0, okl1, okl2, okl3, okl4, okl5, okl6, okl7, okl8, runDf, runCore, inSl, evSs, evS, evE, evP, evT, evTs, evO, evEs, evAs, evI, evX, Res.bind, liftO, Hd.get, getA, getO, Sl.get?, store, bindF, bind1, bindL, storeL, bopD, copD, truD, b1D, b2D, idxD, slcD, augD, putC, isBox, isL, isC, getAll, Ah.get, refsOf, valsOf, putBack, outs, isX, isiD, optI, List.getElem?_cons_zero, List.getElem?_cons_succ, List.getElem?_nil, List.set_cons_zero, List.set_cons_succ, List.map_cons, List.map_nil, Option.map_some, Option.bind_some, Option.isSome_some, List.cons_append, List.nil_append, List.replicate_succ, List.replicate_zero, List.length_cons, List.length_nil, if_true, if_false, Bool.false_eq_true, reduceIte, ite_true, ite_false, s_is_int (show 1 ≤ k by omega), a1, a2, Bool.and_self, Bool.not_true, List.nodup_nil])).trans ?_
  refine (ss_nx (Γ1 := [.sh (.int m), .sh (.tup [.int e0, .int e1]), .sh (.tup [.int t, .int b]), .no, .no, .no, .no, .no]) (by simp only [okl0, okl1, okl2, okl3, okl4, okl5, okl6, okl7, okl8, runDf, runCore, inSl, evSs, evS, evE, evP, evT, evTs, evO, evEs, evAs, evI, evX, Res.bind, liftO, Hd.get, getA, getO, Sl.get?, store, bindF, bind1, bindL, storeL, bopD, copD, truD, b1D, b2D, idxD, slcD, augD, putC, isBox, isL, isC, getAll, Ah.get, refsOf, valsOf, putBack, outs, isX, isiD, optI, List.getElem?_cons_zero, List.getElem?_cons_succ, List.getElem?_nil, List.set_cons_zero, List.set_cons_succ, List.map_cons, List.map_nil, Option.map_some, Option.bind_some, Option.isSome_some, List.cons_append, List.nil_append, List.replicate_succ, List.replicate_zero, List.length_cons, List.length_nil, if_true, if_false, Bool.false_eq_true, reduceIte, ite_true, ite_false, s_look_error hk he, List.nodup_nil, List.isEmpty_nil])).trans ?_
  refine (ss_nx (Γ1 := [.sh (.int m), .sh (.tup [.int e0, .int e1]), .sh (.tup [.int t, .int b]), .no, .no, .no, .no, .no]) (by simp only [okl0, okl1, okl2, okl3, okl4, okl5, okl6, okl7, okl8, runDf, runCore, inSl, evSs, evS, evE, evP, evT, evTs, evO, evEs, evAs, evI, evX, Res.bind, liftO, Hd.get, getA, getO, Sl.get?, store, bindF, bind1, bindL, storeL, bopD, copD, truD, b1D, b2D, idxD, slcD, augD, putC, isBox, isL, isC, getAll, Ah.get, refsOf, valsOf, putBack, outs, isX, isiD, optI, List.getElem?_cons_zero, List.getElem?_cons_succ, List.getElem?_nil, List.set_cons_zero, List.set_cons_succ, List.map_cons, List.map_nil, Option.map_some, Option.bind_some, Option.isSome_some, List.cons_append, List.nil_append, List.replicate_succ, List.replicate_zero, List.length_cons, List.length_nil, if_true, if_false, Bool.false_eq_true, reduceIte, ite_true, ite_false, s_look_chance hk h, List.nodup_nil, List.isEmpty_nil])).trans ?_
  refine (ss_nx (Γ1 := [.sh (.int m), .sh (.tup [.int e0, .int e1]), .sh (.tup [.int t, .int b]), .sh (.lst (((List.range (m + 1)).map (bn t (b - t) m)).map .int)), .sh (.int (b ^ m)), .no, .no, .no]) (by simp only [okl0, okl1, okl2, okl3, okl4, okl5, okl6, okl7, okl8, runDf, runCore, inSl, evSs, evS, evE, evP, evT, evTs, evO, evEs, evAs, evI, evX, Res.bind, liftO, Hd.get, getA, getO, Sl.get?, store, bindF, bind1, bindL, storeL, bopD, copD, truD, b1D, b2D, idxD, slcD, augD, putC, isBox, isL, isC, getAll, Ah.get, refsOf, valsOf, putBack, outs, isX, isiD, optI, List.getElem?_cons_zero, List.getElem?_cons_succ, List.getElem?_nil, List.set_cons_zero, List.set_cons_succ, List.map_cons, List.map_nil, Option.map_some, Option.bind_some, Option.isSome_some, List.cons_append, List.nil_append, List.replicate_succ, List.replicate_zero, List.length_cons, List.length_nil, if_true, if_false, Bool.false_eq_true, reduceIte, ite_true, ite_false, s_parts (show 2 ≤ k by omega) (h.ok hm), List.nodup_nil, List.isEmpty_nil])).trans ?_
  have c := cmp_ixF (cf := callD Pr.dfOf k) (Γ := [.sh (.int m), .sh (.tup [.int e0, .int e1]), .sh (.tup [.int t, .int b]), .sh (.lst (((List.range (m + 1)).map (bn t (b - t) m)).map .int)), .sh (.int (b ^ m)), .no, .no, .no]) (Γ1 := [.sh (.int m), .sh (.tup [.int e0, .int e1]), .sh (.tup [.int t, .int b]), .sh (.lst (((List.range (m + 1)).map (bn t (b - t) m)).map .int)), .sh (.int (b ^ m)), .no, .no, .no]) (Γ2 := [.sh (.int m), .sh (.tup [.int e0, .int e1]), .sh (.tup [.int t, .int b]), .sh (.lst (((List.range (m + 1)).map (bn t (b - t) m)).map .int)), .sh (.int (b ^ m)), .no, .no, .no]) (own := [6, 7]) (n := 8) (k := m + 1) (g := .tp (.cons (.nm 6) (.cons (.nm 7) (.nil)))) (it := .enm (.var 3)) (elt := .var 7) (t := .not_ (.val (.e (.cal 17 (.val (.var 3) (.val (.var 4) (.val (.var 6) (.val (.var 1) (.nil)))))))))
    (h := fun i => .tup [.int i, .int (bn t (b - t) m i)]) (by rw [ev_enm (fr := false) rfl, List.map_map, enum_map]; rfl) rfl (fun s => if inS t (b - t) m s (b ^ m) e0 e1 then none else some (D.int (bn t (b - t) m s))) (by omega) rfl fun i hi => by
      refine ⟨[.sh (.int m), .sh (.tup [.int e0, .int e1]), .sh (.tup [.int t, .int b]), .sh (.lst (((List.range (m + 1)).map (bn t (b - t) m)).map .int)), .sh (.int (b ^ m)), .no, .sh (.int i), .sh (.int (bn t (b - t) m i))], !inS t (b - t) m i (b ^ m) e0 e1, [.sh (.int m), .sh (.tup [.int e0, .int e1]), .sh (.tup [.int t, .int b]), .sh (.lst (((List.range (m + 1)).map (bn t (b - t) m)).map .int)), .sh (.int (b ^ m)), .no, .sh (.int i), .sh (.int (bn t (b - t) m i))], rfl, ?_, ?_⟩
      · simp only [okl0, okl1, okl2, okl3, okl4, okl5, okl6, okl7, okl8, runDf, runCore, inSl, evSs, evS, evE, evP, evT, evTs, evO, evEs, evAs, evI, evX, Res.bind, liftO, Hd.get, getA, getO, Sl.get?, store, bindF, bind1, bindL, storeL, bopD, copD, truD, b1D, b2D, idxD, slcD, augD, putC, isBox, isL, isC, getAll, Ah.get, refsOf, valsOf, putBack, outs, isX, isiD, optI, List.getElem?_cons_zero, List.getElem?_cons_succ, List.getElem?_nil, List.set_cons_zero, List.set_cons_succ, List.map_cons, List.map_nil, Option.map_some, Option.bind_some, Option.isSome_some, List.cons_append, List.nil_append, List.replicate_succ, List.replicate_zero, List.length_cons, List.length_nil, if_true, if_false, Bool.false_eq_true, reduceIte, ite_true, ite_false, s_is_in (show 1 ≤ k by omega) (h.ok hm) he (show i ≤ m by omega), List.nodup_nil]
      · cases inS t (b - t) m i (b ^ m) e0 e1 with
        | true => exact ⟨rfl, rfl⟩
        | false => exact ⟨_, false, _, rfl, rfl, rfl⟩
  rw [out_map] at c
  refine (ss_nx (e_asg c rfl)).trans ?_
  refine ss_rt ?_
  obtain ⟨p1, p2⟩ := powB (h.ok hm)
  have e := intL_map (outL t (b - t) m (b ^ m) e0 e1)
  have f := s_frac (n := k) (by omega) (a := (outL t (b - t) m (b ^ m) e0 e1).sum) p1 (b18 p2)
  simp only [okl0, okl1, okl2, okl3, okl4, okl5, okl6, okl7, okl8, runDf, runCore, inSl, evSs, evS, evE, evP, evT, evTs, evO, evEs, evAs, evI, evX, Res.bind, liftO, Hd.get, getA, getO, Sl.get?, store, bindF, bind1, bindL, storeL, bopD, copD, truD, b1D, b2D, idxD, slcD, augD, putC, isBox, isL, isC, getAll, Ah.get, refsOf, valsOf, putBack, outs, isX, isiD, optI, List.getElem?_cons_zero, List.getElem?_cons_succ, List.getElem?_nil, List.set_cons_zero, List.set_cons_succ, List.map_cons, List.map_nil, Option.map_some, Option.bind_some, Option.isSome_some, List.cons_append, List.nil_append, List.replicate_succ, List.replicate_zero, List.length_cons, List.length_nil, if_true, if_false, Bool.false_eq_true, reduceIte, ite_true, ite_false, e, f, List.nodup_nil]
end
end Dn.K69
end

section
set_option linter.all false
set_option autoImplicit false
set_option maxRecDepth 100000
set_option Elab.async false
set_option exponentiation.threshold 500000
/-! M69F: the bisection. -/
namespace Dn.K69
open PySem PySem.Spec PyProof.Rows L2 Dn
theorem nf_ok {y f : Int} {m : Nat} (hm : m ≤ 60) (h0 : 0 ≤ y) (h1 : y ≤ f) (hf : 0 < f) (hl : f ≤ 2 ^ 30) : Ok m (nfP y f).1 (nfP y f).2 := by
  obtain ⟨a1, a2, a3, a4, a5⟩ := nf_spec (x := y) hf
  refine ⟨hm, ?_, ?_, a1, by omega⟩
  · by_cases h : (nfP y f).1 < 0
    · have : (nfP y f).1 * f < 0 := Int.mul_neg_of_neg_of_pos h hf
      have : 0 ≤ y * (nfP y f).2 := Int.mul_nonneg h0 (by omega)
      omega
    · omega
  · refine Int.le_of_mul_le_mul_right ?_ hf
    rw [a2, Int.mul_comm (nfP y f).2 f]
    exact Int.mul_le_mul_of_nonneg_right h1 (by omega)
section
variable {n m s : Nat} {y f : Int}
theorem at_least_Q (hn : 3 ≤ n) (hm : m ≤ 60) (hs : s ≤ m) (h0 : 0 ≤ y) (h1 : y ≤ f) (hf : 0 < f) (hl : f ≤ 2 ^ 30) : callD Pr.dfOf n 11 [.int m, .int s, Q y f] = some (.ok (Q (hi (nfP y f).1 ((nfP y f).2 - (nfP y f).1) m s) ((nfP y f).2 ^ m)) false []) := s_at_least hn (nf_ok hm h0 h1 hf hl) hs
theorem no_more_Q (hn : 3 ≤ n) (hm : m ≤ 60) (hs : s ≤ m) (h0 : 0 ≤ y) (h1 : y ≤ f) (hf : 0 < f) (hl : f ≤ 2 ^ 30) : callD Pr.dfOf n 12 [.int m, .int s, Q y f] = some (.ok (Q (lo (nfP y f).1 ((nfP y f).2 - (nfP y f).1) m s) ((nfP y f).2 ^ m)) false []) := s_no_more hn (nf_ok hm h0 h1 hf hl) hs
end
/-- is the step ahead of the end -/
def bef (low : Bool) (m s : Nat) (x d f y : Int) : Bool := if low then decide (hi (nfP y f).1 ((nfP y f).2 - (nfP y f).1) m s * d < x * (nfP y f).2 ^ m) else !decide (lo (nfP y f).1 ((nfP y f).2 - (nfP y f).1) m s * d < x * (nfP y f).2 ^ m)
def sideS (low : Bool) : Str := if low then "low" else "high"
theorem side_eq (low : Bool) : eqD (.str (sideS low)) (.str "low") = some low := by cases low <;> rfl
theorem side_eq2 (low : Bool) : eqD (.str (sideS low)) (.str "high") = some (!low) := by cases low <;> rfl
def Fs (s : Sl) : Prop := s = .no ∨ ∃ d, s = .sh d
section
variable {n m s : Nat} {x d : Int} {f : Nat} {low : Bool}
abbrev stE19 (m s : Nat) (x d : Int) (low : Bool) (f : Nat) (a b : Int) (a7 a8 a9 : Sl) : Env := [.sh (.int m), .sh (.int s), .sh (Q x d), .sh (.str (sideS low)), .sh (.int f), .sh (.int a), .sh (.int b), a7, a8, a9]
theorem step_body {k : Nat} (hk : 4 ≤ k) (hm : m ≤ 60) (hs : s ≤ m) (hx : Sm x) (hd : 0 < d) (hd' : Sm d) (hf : 0 < f) (hl : f ≤ 2 ^ 30) {a b : Nat} (hab : a + 1 < b) (hb : b ≤ f) {a7 a8 a9 : Sl} (h7 : Fs a7) (h8 : Fs a8) (h9 : Fs a9) :
    ∃ b7 b8 b9, Fs b7 ∧ Fs b8 ∧ Fs b9 ∧ evSs (callD Pr.dfOf k) (.cons (.asg (.nm 7) (.bin .fdiv (.e (.bin .add (.pek 5) (.pek 6))) (.e (.cst (.int 2))))) (.cons (.asg (.nm 8) (.cal 1 (.val (.var 7) (.val (.var 4) (.nil))))) (.cons (.ite (.val (.e (.cmp .eq (.pek 3) (.e (.cst (.str "low")))))) (.cons (.asg (.nm 9) (.cal 8 (.val (.cal 11 (.val (.var 0) (.val (.var 1) (.val (.var 8) (.nil))))) (.val (.var 2) (.nil))))) (.nil)) (.cons (.asg (.nm 9) (.notE (.e (.cal 8 (.val (.cal 12 (.val (.var 0) (.val (.var 1) (.val (.var 8) (.nil))))) (.val (.var 2) (.nil))))))) (.nil))) (.cons (.asg (.tp (.cons (.nm 5) (.cons (.nm 6) (.nil)))) (.ite (.val (.pek 9)) (.tup (.cons (.var 7) (.cons (.var 6) (.nil)))) (.tup (.cons (.var 5) (.cons (.var 7) (.nil)))))) (.nil)))))
      (stE19 m s x d low f a b a7 a8 a9) = .nx (if bef low m s x d f ((a + b) / 2 : Nat) then stE19 m s x d low f ((a + b) / 2 : Nat) b b7 b8 b9 else stE19 m s x d low f a ((a + b) / 2 : Nat) b7 b8 b9) := by
  have c0 : (a + b) / 2 ≤ f := by omega
  have fr := s_frac (n := k) (by omega) (a := (((a + b) / 2 : Nat) : Int)) (b := (f : Int)) (by omega) (by rw [Int.natAbs_natCast]; exact Nat.lt_of_le_of_lt hl (Nat.pow_lt_pow_right (by decide) (by decide)))
  have dv : divD ((a : Int) + (b : Int)) 2 = some ((((a + b) / 2 : Nat)) : Int) := by rw [divD_of (by decide) (Nat.lt_of_lt_of_le (show (2 : Int).natAbs < 2 ^ 2 by decide) (Nat.pow_le_pow_right (by decide) (by decide)))]; rfl
  have ok := nf_ok (y := (((a + b) / 2 : Nat) : Int)) (f := (f : Int)) hm (by omega) (by omega) (by omega) (by omega)
  obtain ⟨p1, p2⟩ := powB ok
  have al := at_least_Q (n := k) (y := (((a + b) / 2 : Nat) : Int)) (f := (f : Int)) (by omega) hm hs (by omega) (by omega) (by omega) (by omega)
  have nm := no_more_Q (n := k) (y := (((a + b) / 2 : Nat) : Int)) (f := (f : Int)) (by omega) hm hs (by omega) (by omega) (by omega) (by omega)
  have l1 := is_less_Q (n := k) (by omega) p1 hd (sm1800 (sm_le (hi_b ok (show s ≤ m + 1 by omega)) p2)) hx (sm1800 p2) hd'
  have l2 := is_less_Q (n := k) (by omega) p1 hd (sm1800 (sm_le (lo_b ok hs) p2)) hx (sm1800 p2) hd'
  refine ⟨.sh (.int ((a + b) / 2 : Nat)), .sh (Q ((a + b) / 2 : Nat) f), .sh (.bl (bef low m s x d f ((a + b) / 2 : Nat))), .inr ⟨_, rfl⟩, .inr ⟨_, rfl⟩, .inr ⟨_, rfl⟩, ?_⟩
  have st7 : store (stE19 m s x d low f a b a7 a8 a9) 7 (.int ((a + b) / 2 : Nat)) false = some (stE19 m s x d low f a b (.sh (.int ((a + b) / 2 : Nat))) a8 a9) := by
    rcases h7 with rfl | ⟨_, rfl⟩ <;> rfl
  refine (ss_nx (e_asgN (d := .int ((a + b) / 2 : Nat)) (fr := false) (Γ1 := stE19 m s x d low f a b a7 a8 a9) ?_ st7)).trans ?_
  · simp only [stE19, okl0, okl1, okl2, okl3, okl4, okl5, okl6, okl7, okl8, runDf, runCore, inSl, evSs, evS, evE, evP, evT, evTs, evO, evEs, evAs, evI, evX, Res.bind, liftO, Hd.get, getA, getO, Sl.get?, store, bindF, bind1, bindL, storeL, bopD, copD, truD, b1D, b2D, idxD, slcD, augD, putC, isBox, isL, isC, getAll, Ah.get, refsOf, valsOf, putBack, outs, isX, isiD, optI, List.getElem?_cons_zero, List.getElem?_cons_succ, List.getElem?_nil, List.set_cons_zero, List.set_cons_succ, List.map_cons, List.map_nil, Option.map_some, Option.bind_some, Option.isSome_some, List.cons_append, List.nil_append, List.replicate_succ, List.replicate_zero, List.length_cons, List.length_nil, if_true, if_false, Bool.false_eq_true, reduceIte, ite_true, ite_false, dv]
  have st8 : store (stE19 m s x d low f a b (.sh (.int ((a + b) / 2 : Nat))) a8 a9) 8 (Q ((a + b) / 2 : Nat) f) false = some (stE19 m s x d low f a b (.sh (.int ((a + b) / 2 : Nat))) (.sh (Q ((a + b) / 2 : Nat) f)) a9) := by
    rcases h8 with rfl | ⟨_, rfl⟩ <;> rfl
  refine (ss_nx (e_asgN (d := Q ((a + b) / 2 : Nat) f) (fr := false) (Γ1 := stE19 m s x d low f a b (.sh (.int ((a + b) / 2 : Nat))) a8 a9) ?_ st8)).trans ?_
  · simp only [stE19, okl0, okl1, okl2, okl3, okl4, okl5, okl6, okl7, okl8, runDf, runCore, inSl, evSs, evS, evE, evP, evT, evTs, evO, evEs, evAs, evI, evX, Res.bind, liftO, Hd.get, getA, getO, Sl.get?, store, bindF, bind1, bindL, storeL, bopD, copD, truD, b1D, b2D, idxD, slcD, augD, putC, isBox, isL, isC, getAll, Ah.get, refsOf, valsOf, putBack, outs, isX, isiD, optI, List.getElem?_cons_zero, List.getElem?_cons_succ, List.getElem?_nil, List.set_cons_zero, List.set_cons_succ, List.map_cons, List.map_nil, Option.map_some, Option.bind_some, Option.isSome_some, List.cons_append, List.nil_append, List.replicate_succ, List.replicate_zero, List.length_cons, List.length_nil, if_true, if_false, Bool.false_eq_true, reduceIte, ite_true, ite_false, fr, List.nodup_nil]
  have st9 : ∀ z : D, store (stE19 m s x d low f a b (.sh (.int ((a + b) / 2 : Nat))) (.sh (Q ((a + b) / 2 : Nat) f)) a9) 9 z false = some (stE19 m s x d low f a b (.sh (.int ((a + b) / 2 : Nat))) (.sh (Q ((a + b) / 2 : Nat) f)) (.sh z)) := fun z => by
    rcases h9 with rfl | ⟨_, rfl⟩ <;> rfl
  have te : evT (callD Pr.dfOf k) (.val (.e (.cmp .eq (.pek 3) (.e (.cst (.str "low")))))) (stE19 m s x d low f a b (.sh (.int ((a + b) / 2 : Nat))) (.sh (Q ((a + b) / 2 : Nat) f)) a9) = .ok low (stE19 m s x d low f a b (.sh (.int ((a + b) / 2 : Nat))) (.sh (Q ((a + b) / 2 : Nat) f)) a9) := by
    simp only [stE19, okl0, okl1, okl2, okl3, okl4, okl5, okl6, okl7, okl8, runDf, runCore, inSl, evSs, evS, evE, evP, evT, evTs, evO, evEs, evAs, evI, evX, Res.bind, liftO, Hd.get, getA, getO, Sl.get?, store, bindF, bind1, bindL, storeL, bopD, copD, truD, b1D, b2D, idxD, slcD, augD, putC, isBox, isL, isC, getAll, Ah.get, refsOf, valsOf, putBack, outs, isX, isiD, optI, List.getElem?_cons_zero, List.getElem?_cons_succ, List.getElem?_nil, List.set_cons_zero, List.set_cons_succ, List.map_cons, List.map_nil, Option.map_some, Option.bind_some, Option.isSome_some, List.cons_append, List.nil_append, List.replicate_succ, List.replicate_zero, List.length_cons, List.length_nil, if_true, if_false, Bool.false_eq_true, reduceIte, ite_true, ite_false, side_eq]
  refine (ss_nx (Γ1 := stE19 m s x d low f a b (.sh (.int ((a + b) / 2 : Nat))) (.sh (Q ((a + b) / 2 : Nat) f)) (.sh (.bl (bef low m s x d f ((a + b) / 2 : Nat))))) ?_).trans ?_
  · cases low with
    | true =>
      rw [s_iteT te]
      refine (ss_nx (e_asgN (d := .bl (bef true m s x d f ((a + b) / 2 : Nat))) (fr := false) ?_ (st9 _))).trans rfl
      unfold bef
      simp only [stE19, okl0, okl1, okl2, okl3, okl4, okl5, okl6, okl7, okl8, runDf, runCore, inSl, evSs, evS, evE, evP, evT, evTs, evO, evEs, evAs, evI, evX, Res.bind, liftO, Hd.get, getA, getO, Sl.get?, store, bindF, bind1, bindL, storeL, bopD, copD, truD, b1D, b2D, idxD, slcD, augD, putC, isBox, isL, isC, getAll, Ah.get, refsOf, valsOf, putBack, outs, isX, isiD, optI, List.getElem?_cons_zero, List.getElem?_cons_succ, List.getElem?_nil, List.set_cons_zero, List.set_cons_succ, List.map_cons, List.map_nil, Option.map_some, Option.bind_some, Option.isSome_some, List.cons_append, List.nil_append, List.replicate_succ, List.replicate_zero, List.length_cons, List.length_nil, if_true, if_false, Bool.false_eq_true, reduceIte, ite_true, ite_false, al, l1, List.nodup_nil]
    | false =>
      rw [s_iteF te]
      refine (ss_nx (e_asgN (d := .bl (bef false m s x d f ((a + b) / 2 : Nat))) (fr := false) ?_ (st9 _))).trans rfl
      unfold bef
      simp only [stE19, okl0, okl1, okl2, okl3, okl4, okl5, okl6, okl7, okl8, runDf, runCore, inSl, evSs, evS, evE, evP, evT, evTs, evO, evEs, evAs, evI, evX, Res.bind, liftO, Hd.get, getA, getO, Sl.get?, store, bindF, bind1, bindL, storeL, bopD, copD, truD, b1D, b2D, idxD, slcD, augD, putC, isBox, isL, isC, getAll, Ah.get, refsOf, valsOf, putBack, outs, isX, isiD, optI, List.getElem?_cons_zero, List.getElem?_cons_succ, List.getElem?_nil, List.set_cons_zero, List.set_cons_succ, List.map_cons, List.map_nil, Option.map_some, Option.bind_some, Option.isSome_some, List.cons_append, List.nil_append, List.replicate_succ, List.replicate_zero, List.length_cons, List.length_nil, if_true, if_false, Bool.false_eq_true, reduceIte, ite_true, ite_false, nm, l2, List.nodup_nil]
  · cases bef low m s x d f ((a + b) / 2 : Nat) with
    | true => rfl
    | false => rfl
theorem steps_loop {k : Nat} (hk : 4 ≤ k) (hm : m ≤ 60) (hs : s ≤ m) (hx : Sm x) (hd : 0 < d) (hd' : Sm d) (hf : 0 < f) (hl : f ≤ 2 ^ 30) : ∀ (fuel a b : Nat), a < b → b ≤ f → b - a ≤ fuel → ∀ {a7 a8 a9 : Sl}, Fs a7 → Fs a8 → Fs a9 → (a = 0 ∨ bef low m s x d f a = true) → (b = f ∨ bef low m s x d f b = false) →
    ∃ (l : Nat) (b7 b8 b9 : Sl), l < f ∧ whlL (fun Γ => evT (callD Pr.dfOf k) (.val (.e (.cmp .gt (.e (.bin .sub (.pek 6) (.pek 5))) (.e (.cst (.int 1)))))) Γ) (fun Γ => evSs (callD Pr.dfOf k) (.cons (.asg (.nm 7) (.bin .fdiv (.e (.bin .add (.pek 5) (.pek 6))) (.e (.cst (.int 2))))) (.cons (.asg (.nm 8) (.cal 1 (.val (.var 7) (.val (.var 4) (.nil))))) (.cons (.ite (.val (.e (.cmp .eq (.pek 3) (.e (.cst (.str "low")))))) (.cons (.asg (.nm 9) (.cal 8 (.val (.cal 11 (.val (.var 0) (.val (.var 1) (.val (.var 8) (.nil))))) (.val (.var 2) (.nil))))) (.nil)) (.cons (.asg (.nm 9) (.notE (.e (.cal 8 (.val (.cal 12 (.val (.var 0) (.val (.var 1) (.val (.var 8) (.nil))))) (.val (.var 2) (.nil))))))) (.nil))) (.cons (.asg (.tp (.cons (.nm 5) (.cons (.nm 6) (.nil)))) (.ite (.val (.pek 9)) (.tup (.cons (.var 7) (.cons (.var 6) (.nil)))) (.tup (.cons (.var 5) (.cons (.var 7) (.nil)))))) (.nil))))) Γ) fuel (stE19 m s x d low f a b a7 a8 a9) = .nx (stE19 m s x d low f l (l + 1 : Nat) b7 b8 b9) ∧ (l = 0 ∨ bef low m s x d f l = true) ∧ (l + 1 = f ∨ bef low m s x d f (l + 1 : Nat) = false) := by
  have tst : ∀ (a b : Nat) (a7 a8 a9 : Sl), evT (callD Pr.dfOf k) (.val (.e (.cmp .gt (.e (.bin .sub (.pek 6) (.pek 5))) (.e (.cst (.int 1)))))) (stE19 m s x d low f a b a7 a8 a9) = .ok (decide (1 < (b : Int) - (a : Int))) (stE19 m s x d low f a b a7 a8 a9) := fun a b a7 a8 a9 => by
    simp only [stE19, okl0, okl1, okl2, okl3, okl4, okl5, okl6, okl7, okl8, runDf, runCore, inSl, evSs, evS, evE, evP, evT, evTs, evO, evEs, evAs, evI, evX, Res.bind, liftO, Hd.get, getA, getO, Sl.get?, store, bindF, bind1, bindL, storeL, bopD, copD, truD, b1D, b2D, idxD, slcD, augD, putC, isBox, isL, isC, getAll, Ah.get, refsOf, valsOf, putBack, outs, isX, isiD, optI, List.getElem?_cons_zero, List.getElem?_cons_succ, List.getElem?_nil, List.set_cons_zero, List.set_cons_succ, List.map_cons, List.map_nil, Option.map_some, Option.bind_some, Option.isSome_some, List.cons_append, List.nil_append, List.replicate_succ, List.replicate_zero, List.length_cons, List.length_nil, if_true, if_false, Bool.false_eq_true, reduceIte, ite_true, ite_false]
  intro fuel
  induction fuel with
  | zero => intro a b h1 h2 h3; omega
  | succ fuel ih =>
    intro a b h1 h2 h3 a7 a8 a9 h7 h8 h9 i1 i2
    unfold whlL
    rw [tst]
    by_cases h : a + 1 = b
    · rw [show decide (1 < (b : Int) - (a : Int)) = false from decide_eq_false (by omega)]
      exact ⟨a, a7, a8, a9, by omega, by rw [h], i1, by rw [h]; exact i2⟩
    · rw [show decide (1 < (b : Int) - (a : Int)) = true from decide_eq_true (by omega)]
      dsimp only
      obtain ⟨b7, b8, b9, g7, g8, g9, e⟩ := step_body (low := low) hk hm hs hx hd hd' hf hl (show a + 1 < b by omega) h2 h7 h8 h9
      rw [e]
      dsimp only
      cases hb : bef low m s x d f ((a + b) / 2 : Nat) with
      | true =>
        rw [if_pos rfl]
        exact ih ((a + b) / 2) b (by omega) h2 (by omega) g7 g8 g9 (.inr hb) i2
      | false =>
        rw [if_neg Bool.false_ne_true]
        exact ih a ((a + b) / 2) (by omega) (by omega) (by omega) g7 g8 g9 i1 (.inr hb)
theorem s_steps (hn : 5 ≤ n) (hm : m ≤ 60) (hs : s ≤ m) (hx : Sm x) (hd : 0 < d) (hd' : Sm d) (hf : 0 < f) (hl : f ≤ 1000000) :
    ∃ l : Nat, l < f ∧ callD Pr.dfOf n 19 [.int m, .int s, Q x d, .str (sideS low), .int f] = some (.ok (.int l) false []) ∧ (l = 0 ∨ bef low m s x d f l = true) ∧ (l + 1 = f ∨ bef low m s x d f (l + 1 : Nat) = false) := by
  obtain ⟨k, rfl, hk⟩ := up hn
  obtain ⟨l, b7, b8, b9, h1, h2, h3, h4⟩ := steps_loop (low := low) hk hm hs hx hd hd' hf (by omega) fuelW 0 f hf (by omega) (by have : fuelW = 1000000 := rfl; omega) (.inl rfl) (.inl rfl) (.inl rfl) (.inl rfl) (.inl rfl)
  refine ⟨l, h1, ?_, h3, h4⟩
  rw [callD_def (d := d_told_steps) rfl]
  refine run_rt (Γ0 := [.sh (.int m), .sh (.int s), .sh (Q x d), .sh (.str (sideS low)), .sh (.int f), .no, .no, .no, .no, .no]) rfl rfl ?_ (Γ' := stE19 m s x d low f l (l + 1 : Nat) b7 b8 b9) rfl
  refine (ss_nx (Γ1 := stE19 m s x d low f (0 : Nat) f .no .no .no) rfl).trans ?_
  refine (ss_nx (e_whl h2)).trans ?_
  rfl
end
end Dn.K69
end

section
set_option linter.all false
set_option autoImplicit false
set_option maxRecDepth 100000
set_option Elab.async false
set_option exponentiation.threshold 500000
/-! M69G: ends of stretches; the law's own chances. -/
namespace Dn.K69
open PySem PySem.Spec PyProof.Rows L2 Dn
theorem Er.half {e0 e1 : Int} (he : Er e0 e1) : Sm (e0 * 1) ∧ 0 < e1 * 2 ∧ Sm (e1 * 2) := by
  have := he.t1; have := he.b1; have := he.bl
  exact ⟨by rw [Int.mul_one]; exact he.s0.1, by omega, Sm.of (k := 32) (by omega) (by decide)⟩
/-- ends -/
inductive EndR (low : Bool) (m s : Nat) (e0 e1 : Int) (f : Nat) : D → Prop where
  | zero (h : low = true) (h2 : s = 0) : EndR low m s e0 e1 f (.tup [.tup [.int 0, .int 1], .tup [.int 0, .int 1]])
  | one (h : low = false) (h2 : s = m) : EndR low m s e0 e1 f (.tup [.tup [.int 1, .int 1], .tup [.int 1, .int 1]])
  | mid (l : Nat) (h : low = true → s ≠ 0) (h2 : low = false → s ≠ m) (hl : l < f) (h3 : l = 0 ∨ bef low m s (e0 * 1) (e1 * 2) f l = true) (h4 : l + 1 = f ∨ bef low m s (e0 * 1) (e1 * 2) f (l + 1 : Nat) = false) : EndR low m s e0 e1 f (.tup [Q l f, Q (l + 1 : Nat) f])
theorem in_side (low : Bool) : inD (.str (sideS low)) [.str "low", .str "high"] = some true := by cases low <;> rfl
theorem isi_side (low : Bool) : isiD .str (.str (sideS low)) = true := rfl
theorem eqi {a b : Int} : eqD (.int a) (.int b) = some (decide (a = b)) := by
  show some (PyData.eqv (.int a) (.int b)) = _
  rfl
theorem s_end {n m s : Nat} {low : Bool} {e0 e1 : Int} {f : Nat} (hn : 7 ≤ n) (hm1 : 1 ≤ m) (hm : m ≤ 60) (hs : s ≤ m) (he : Er e0 e1) (hf : 1 ≤ f) (hl : f ≤ 1000000) :
    ∃ d, callD Pr.dfOf n 20 [.int m, .int s, .tup [.int e0, .int e1], .str (sideS low), .int f] = some (.ok d false []) ∧ EndR low m s e0 e1 f d := by
  obtain ⟨k, rfl, hk⟩ := up hn
  rw [callD_def (d := d_end_of_stretch) rfl]
  have a1 : decide ((1 : Int) ≤ (f : Int)) = true := decide_eq_true (by omega)
  have a2 : decide ((f : Int) ≤ 1000000) = true := decide_eq_true (by omega)
  obtain ⟨x1, x2, x3⟩ := he.half
  obtain ⟨l, l1, l2, l3, l4⟩ := s_steps (n := k) (low := low) (by omega) hm hs x1 x2 x3 (show 0 < f by omega) hl
  have ht := s_times (n := k) (by omega) he.s0.1 he.s0.2 (p' := 1) (q' := 2) (Sm.of (k := 2) (by decide) (by decide)) two_sm he.b0 (by decide)
  have b8 : ((f : Nat) : Int).natAbs < 2 ^ 8000 := by rw [Int.natAbs_natCast]; exact Nat.lt_of_lt_of_le (show f < 2 ^ 20 by omega) (Nat.pow_le_pow_right (by decide) (by decide))
  have q1 := s_frac (n := k) (by omega) (a := (l : Int)) (b := (f : Int)) (by omega) b8
  have q2 := s_frac (n := k) (by omega) (a := ((l + 1 : Nat) : Int)) (b := (f : Int)) (by omega) b8
  have e1' : ((l : Int) + 1) = ((l + 1 : Nat) : Int) := rfl
  have ls := s_look_seen (n := k) (by omega) hm1 hm hs
  have le := s_look_error (n := k) hk he
  have is := s_is_int (n := k) (show 1 ≤ k by omega) (i := (f : Int)) (l := 1) (m := 1000000)
  rw [a1, a2] at is
  have e0' : ∀ a b : Nat, decide ((a : Int) = (b : Int)) = decide (a = b) := fun a b => decide_eq_decide.mpr (by omega)
  have e00 : decide ((s : Int) = 0) = decide (s = 0) := decide_eq_decide.mpr (by omega)
  cases low with
  | true =>
    by_cases h0 : s = 0
    · refine ⟨_, ?_, .zero rfl h0⟩
      have h0' : decide (s = 0) = true := decide_eq_true h0
      simp only [d_end_of_stretch, df_end_of_stretch, okl0, okl1, okl2, okl3, okl4, okl5, okl6, okl7, okl8, runDf, runCore, inSl, evSs, evS, evE, evP, evT, evTs, evO, evEs, evAs, evI, evX, Res.bind, liftO, Hd.get, getA, getO, Sl.get?, store, bindF, bind1, bindL, storeL, bopD, copD, truD, b1D, b2D, idxD, slcD, augD, putC, isBox, isL, isC, getAll, Ah.get, refsOf, valsOf, putBack, outs, isX, isiD, optI, List.getElem?_cons_zero, List.getElem?_cons_succ, List.getElem?_nil, List.set_cons_zero, List.set_cons_succ, List.map_cons, List.map_nil, Option.map_some, Option.bind_some, Option.isSome_some, List.cons_append, List.nil_append, List.replicate_succ, List.replicate_zero, List.length_cons, List.length_nil, if_true, if_false, Bool.false_eq_true, reduceIte, ite_true, ite_false, ls, le, isi_side, in_side, is, side_eq, eqi, e00, h0', Bool.not_true, Bool.and_self, List.nodup_nil, List.isEmpty_nil]
    · refine ⟨_, ?_, .mid l (fun _ => h0) (fun z => by cases z) l1 l3 l4⟩
      have h0' : decide (s = 0) = false := decide_eq_false h0
      simp only [d_end_of_stretch, df_end_of_stretch, okl0, okl1, okl2, okl3, okl4, okl5, okl6, okl7, okl8, runDf, runCore, inSl, evSs, evS, evE, evP, evT, evTs, evO, evEs, evAs, evI, evX, Res.bind, liftO, Hd.get, getA, getO, Sl.get?, store, bindF, bind1, bindL, storeL, bopD, copD, truD, b1D, b2D, idxD, slcD, augD, putC, isBox, isL, isC, getAll, Ah.get, refsOf, valsOf, putBack, outs, isX, isiD, optI, List.getElem?_cons_zero, List.getElem?_cons_succ, List.getElem?_nil, List.set_cons_zero, List.set_cons_succ, List.map_cons, List.map_nil, Option.map_some, Option.bind_some, Option.isSome_some, List.cons_append, List.nil_append, List.replicate_succ, List.replicate_zero, List.length_cons, List.length_nil, if_true, if_false, Bool.false_eq_true, reduceIte, ite_true, ite_false, ls, le, isi_side, in_side, is, side_eq, side_eq2, eqi, e00, h0', ht, l2, e1', q1, q2, Bool.not_true, Bool.and_self, List.nodup_nil, List.isEmpty_nil]
  | false =>
    by_cases h0 : s = m
    · refine ⟨_, ?_, .one rfl h0⟩
      have h0' : decide (s = m) = true := decide_eq_true h0
      simp only [d_end_of_stretch, df_end_of_stretch, okl0, okl1, okl2, okl3, okl4, okl5, okl6, okl7, okl8, runDf, runCore, inSl, evSs, evS, evE, evP, evT, evTs, evO, evEs, evAs, evI, evX, Res.bind, liftO, Hd.get, getA, getO, Sl.get?, store, bindF, bind1, bindL, storeL, bopD, copD, truD, b1D, b2D, idxD, slcD, augD, putC, isBox, isL, isC, getAll, Ah.get, refsOf, valsOf, putBack, outs, isX, isiD, optI, List.getElem?_cons_zero, List.getElem?_cons_succ, List.getElem?_nil, List.set_cons_zero, List.set_cons_succ, List.map_cons, List.map_nil, Option.map_some, Option.bind_some, Option.isSome_some, List.cons_append, List.nil_append, List.replicate_succ, List.replicate_zero, List.length_cons, List.length_nil, if_true, if_false, Bool.false_eq_true, reduceIte, ite_true, ite_false, ls, le, isi_side, in_side, is, side_eq, side_eq2, eqi, e0', h0', Bool.not_true, Bool.not_false, Bool.and_self, List.nodup_nil, List.isEmpty_nil]
    · refine ⟨_, ?_, .mid l (fun z => by cases z) (fun _ => h0) l1 l3 l4⟩
      have h0' : decide (s = m) = false := decide_eq_false h0
      simp only [d_end_of_stretch, df_end_of_stretch, okl0, okl1, okl2, okl3, okl4, okl5, okl6, okl7, okl8, runDf, runCore, inSl, evSs, evS, evE, evP, evT, evTs, evO, evEs, evAs, evI, evX, Res.bind, liftO, Hd.get, getA, getO, Sl.get?, store, bindF, bind1, bindL, storeL, bopD, copD, truD, b1D, b2D, idxD, slcD, augD, putC, isBox, isL, isC, getAll, Ah.get, refsOf, valsOf, putBack, outs, isX, isiD, optI, List.getElem?_cons_zero, List.getElem?_cons_succ, List.getElem?_nil, List.set_cons_zero, List.set_cons_succ, List.map_cons, List.map_nil, Option.map_some, Option.bind_some, Option.isSome_some, List.cons_append, List.nil_append, List.replicate_succ, List.replicate_zero, List.length_cons, List.length_nil, if_true, if_false, Bool.false_eq_true, reduceIte, ite_true, ite_false, ls, le, isi_side, in_side, is, side_eq, side_eq2, eqi, e0', h0', ht, l2, e1', q1, q2, Bool.not_true, Bool.not_false, Bool.and_self, List.nodup_nil, List.isEmpty_nil]
/-! ### the law's own -/
theorem Q_zero {d : Int} (hd : 0 < d) : Q 0 d = .tup [.int 0, .int 1] := by
  have : nfP 0 d = nfP 0 1 := nf_eq hd (by decide) (by omega)
  unfold Q
  rw [this]
  rfl
theorem Q_one {d : Int} (hd : 0 < d) : Q d d = .tup [.int 1, .int 1] := by
  have : nfP d d = nfP 1 1 := nf_eq hd (by decide) (by omega)
  unfold Q
  rw [this]
  rfl
theorem bn_le {t b : Int} {m i : Nat} (h : Ok m t b) : 0 ≤ bn t (b - t) m i ∧ bn t (b - t) m i ≤ b ^ m := by
  have n := bn_nonneg h.t0 (show 0 ≤ b - t by have := h.tb; omega) m
  refine ⟨n i, ?_⟩
  by_cases hi : i ≤ m
  · have h1 := sm_mono n (show i + 1 ≤ m + 1 by omega)
    have h2 := sm_nonneg n i
    rw [tot h] at h1
    have h3 : sm (bn t (b - t) m) (i + 1) = sm (bn t (b - t) m) i + bn t (b - t) m i := rfl
    omega
  · rw [bn_gt _ _ _ _ (by omega)]
    exact Int.le_of_lt (powB h).1
/-- the list of the law's chances after k laps -/
def J (t b : Int) (k : Nat) : List D := (List.range (k + 1)).map fun i => Q (bn t (b - t) k i) (b ^ k)
def lw (t u : Int) (k i j : Nat) : Int := bn t u k j * u + (if 1 ≤ j ∧ j ≤ i then bn t u k (j - 1) * t else 0)
def Lg (t b : Int) (k i : Nat) : List D := (List.range (k + 2)).map fun j => Q (lw t (b - t) k i j) (b ^ (k + 1))
theorem set_map {n i : Nat} (h : i < n) (f g : Nat → D) (hg : ∀ j, j ≠ i → f j = g j) : ((List.range n).map f).set i (g i) = (List.range n).map g := by
  apply List.ext_getElem?
  intro j
  by_cases hj : j = i
  · subst hj
    rw [List.getElem?_set_self (by simpa using h), List.getElem?_map, List.getElem?_range h]
    rfl
  · rw [List.getElem?_set_ne (Ne.symm hj), List.getElem?_map, List.getElem?_map]
    by_cases hn : j < n
    · rw [List.getElem?_range hn]
      simp [hg j hj]
    · rw [List.getElem?_eq_none (by simp; omega)]
      rfl
theorem map_get {n i : Nat} (h : i < n) (f : Nat → D) : L2.atI ((List.range n).map f) (i : Int) = some (f i) := by
  rw [atI_nat (by simpa using h), List.getElem?_map, List.getElem?_range h]
  rfl
theorem Lg_end (t b : Int) (k : Nat) : Lg t b k (k + 1) = J t b (k + 1) := by
  unfold Lg J
  refine List.map_congr_left fun j hj => ?_
  have hj := List.mem_range.mp hj
  congr 1
  unfold lw
  cases j with
  | zero => rw [if_neg (by omega)]; show bn t (b - t) k 0 * (b - t) + 0 = bn t (b - t) k 0 * (b - t); omega
  | succ j => rw [if_pos (by omega)]; rfl
theorem lw_b {t b : Int} {k i j : Nat} (h : Ok (k + 1) t b) : 0 ≤ lw t (b - t) k i j ∧ lw t (b - t) k i j ≤ b ^ (k + 1) := by
  have n := bn_nonneg h.t0 (show 0 ≤ b - t by have := h.tb; omega) k
  have u0 : 0 ≤ b - t := by have := h.tb; omega
  have a := Int.mul_nonneg (n j) u0
  have c := Int.mul_nonneg (n (j - 1)) h.t0
  have z := bn_le (i := j) h
  unfold lw
  split
  · rename_i hj
    obtain ⟨j, rfl⟩ : ∃ j', j = j' + 1 := ⟨j - 1, by omega⟩
    have e : bn t (b - t) (k + 1) (j + 1) = bn t (b - t) k (j + 1) * (b - t) + bn t (b - t) k j * t := rfl
    rw [e] at z
    rw [Nat.add_sub_cancel] at c ⊢
    omega
  · cases j with
    | zero =>
      have e : bn t (b - t) (k + 1) 0 = bn t (b - t) k 0 * (b - t) := rfl
      rw [e] at z
      omega
    | succ j =>
      have e : bn t (b - t) (k + 1) (j + 1) = bn t (b - t) k (j + 1) * (b - t) + bn t (b - t) k j * t := rfl
      rw [e] at z
      have c' := Int.mul_nonneg (n j) h.t0
      omega
end Dn.K69
end

section
set_option linter.all false
set_option autoImplicit false
set_option maxRecDepth 100000
set_option Elab.async false
set_option exponentiation.threshold 500000
/-! M69H: the law's own chances, sums. -/
namespace Dn.K69
open PySem PySem.Spec PyProof.Rows L2 Dn
theorem J0 (t b : Int) : J t b 0 = [.tup [.int 1, .int 1]] := by
  unfold J
  show [Q 1 (b ^ 0)] = _
  rw [Int.pow_zero]
  exact congrArg (fun z => [z]) (Q_one (d := 1) (by decide))
theorem J_len (t b : Int) (k : Nat) : (J t b k).length = k + 1 := by unfold J; simp
theorem Lg_len (t b : Int) (k i : Nat) : (Lg t b k i).length = k + 2 := by unfold Lg; simp
abbrev stJ (m : Nat) (t b : Int) (s2 : Sl) (s4 s5 s6 s7 : Sl) : Env := [.sh (.int m), .sh (.tup [.int t, .int b]), s2, .sh (Q (b - t) b), s4, s5, s6, s7]
theorem Lg_zero {t b : Int} {k : Nat} (h : Ok (k + 1) t b) : ((List.range (k + 1)).map fun i => Q (bn t (b - t) k i * (b - t)) (b ^ k * b)) ++ [.tup [.int 0, .int 1]] = Lg t b k 0 := by
  unfold Lg
  rw [List.range_succ (n := k + 1), List.map_append, ← Q_zero (powB h).1]
  congr 1
  · refine List.map_congr_left fun j _ => ?_
    unfold lw
    rw [if_neg (by omega), Int.pow_succ, Int.add_zero]
  · show _ = [Q (lw t (b - t) k 0 (k + 1)) (b ^ (k + 1))]
    unfold lw
    rw [if_neg (by omega), bn_gt _ _ _ _ (by omega)]
    simp
/-- one lap -/
theorem just_lap {n m k : Nat} {t b : Int} (hn : 2 ≤ n) (h : Ok m t b) (hg : Int.gcd t b = 1) (hk : k < m) {s2 s4 s5 s6 s7 : Sl} (h2 : s2 = .sh (.lst (J t b k)) ∨ s2 = .ow (.lst (J t b k))) (h5 : Fs s5) (h6 : Fs s6) (h7 : Fs s7) :
    evSs (callD Pr.dfOf n) (.cons (.asg (.nm 5) (.bin .add (.e (.cmp1 (.cal 31 (.val (.var 7) (.val (.var 3) (.nil)))) (.nm 7) (.seq (.var 2)) (.nil) [7] 8)) (.e (.lst (.cons (.tup (.cons (.cst (.int 0)) (.cons (.cst (.int 1)) (.nil)))) (.nil)))))) (.cons (.for_ (.tp (.cons (.nm 6) (.cons (.nm 7) (.nil)))) (.enm (.var 2)) (.cons (.set 5 (.e (.bin .add (.pek 6) (.e (.cst (.int 1))))) (.cal 30 (.val (.idx (.pek 5) (.e (.bin .add (.pek 6) (.e (.cst (.int 1)))))) (.val (.cal 31 (.val (.var 7) (.val (.var 1) (.nil)))) (.nil))))) (.nil))) (.cons (.asg (.nm 2) (.var 5)) (.nil))))
      (stJ m t b s2 s4 s5 s6 s7) = .nx (stJ m t b (.sh (.lst (J t b (k + 1)))) s4 (.sh (.lst (J t b (k + 1)))) (.sh (.int k)) (.sh (Q (bn t (b - t) k k) (b ^ k)))) := by
  have hk1 : Ok (k + 1) t b := ⟨by have := h.m; omega, h.t0, h.tb, h.b0, h.bl⟩
  have hk0 : Ok k t b := ⟨by have := h.m; omega, h.t0, h.tb, h.b0, h.bl⟩
  have hm := h.m
  obtain ⟨p1, p2⟩ := powB hk0
  obtain ⟨r1, r2⟩ := powB hk1
  have sb : ∀ i, Sm (bn t (b - t) k i) := fun i => sm1800 (sm_le (bn_le hk0) p2)
  have tm : ∀ i, callD Pr.dfOf n 31 [Q (bn t (b - t) k i) (b ^ k), Q (b - t) b] = some (.ok (Q (bn t (b - t) k i * (b - t)) (b ^ k * b)) false []) := fun i => times_Q hn p1 h.b0 (sb i) h.su (sm1800 p2) h.sb
  have tc : ∀ i, callD Pr.dfOf n 31 [Q (bn t (b - t) k i) (b ^ k), .tup [.int t, .int b]] = some (.ok (Q (bn t (b - t) k i * t) (b ^ (k + 1))) false []) := fun i => by
    rw [← Q_red h.b0 hg, Int.pow_succ]
    exact times_Q hn p1 h.b0 (sb i) h.sm_t (sm1800 p2) h.sb
  -- the comprehension
  have ev2 : evE (callD Pr.dfOf n) (.var 2) (stJ m t b s2 s4 s5 s6 s7) = .ok (.lst (J t b k), false) (stJ m t b (.sh (.lst (J t b k))) s4 s5 s6 s7) := by
    rcases h2 with rfl | rfl <;> rfl
  have c := cmp_ix (cf := callD Pr.dfOf n) (Γ := stJ m t b s2 s4 s5 s6 s7) (Γ1 := stJ m t b (.sh (.lst (J t b k))) s4 s5 s6 s7) (Γ2 := stJ m t b (.sh (.lst (J t b k))) s4 s5 s6 s7) (own := [7]) (n := 8) (k := k + 1) (g := .nm 7) (it := .seq (.var 2)) (elt := .cal 31 (.val (.var 7) (.val (.var 3) (.nil)))) (h := fun i => Q (bn t (b - t) k i) (b ^ k))
    (ev_seqL ev2) (by rcases h7 with rfl | ⟨_, rfl⟩ <;> rfl) (fun i => Q (bn t (b - t) k i * (b - t)) (b ^ k * b)) (by omega) rfl fun i hi =>
      ⟨stJ m t b (.sh (.lst (J t b k))) s4 s5 s6 (.sh (Q (bn t (b - t) k i) (b ^ k))), false, stJ m t b (.sh (.lst (J t b k))) s4 s5 s6 (.sh (Q (bn t (b - t) k i) (b ^ k))), rfl, by simp only [stJ, okl0, okl1, okl2, okl3, okl4, okl5, okl6, okl7, okl8, runDf, runCore, inSl, evSs, evS, evE, evP, evT, evTs, evO, evEs, evAs, evI, evX, Res.bind, liftO, Hd.get, getA, getO, Sl.get?, store, bindF, bind1, bindL, storeL, bopD, copD, truD, b1D, b2D, idxD, slcD, augD, putC, isBox, isL, isC, getAll, Ah.get, refsOf, valsOf, putBack, outs, isX, isiD, optI, List.getElem?_cons_zero, List.getElem?_cons_succ, List.getElem?_nil, List.set_cons_zero, List.set_cons_succ, List.map_cons, List.map_nil, Option.map_some, Option.bind_some, Option.isSome_some, List.cons_append, List.nil_append, List.replicate_succ, List.replicate_zero, List.length_cons, List.length_nil, if_true, if_false, Bool.false_eq_true, reduceIte, ite_true, ite_false, tm, List.nodup_nil], rfl⟩
  have st5 : store (stJ m t b (.sh (.lst (J t b k))) s4 s5 s6 s7) 5 (.lst (Lg t b k 0)) true = some (stJ m t b (.sh (.lst (J t b k))) s4 (.ow (.lst (Lg t b k 0))) s6 s7) := by
    rcases h5 with rfl | ⟨_, rfl⟩ <;> rfl
  refine (ss_nx (e_asgN (d := .lst (Lg t b k 0)) (fr := true) (Γ1 := stJ m t b (.sh (.lst (J t b k))) s4 s5 s6 s7) ?_ st5)).trans ?_
  · refine ev_bin (r := .lst (Lg t b k 0)) c (e := .lst [.tup [.int 0, .int 1]]) (fr' := true) rfl ?_
    show (if okLen (((List.range (k + 1)).map fun i => Q (bn t (b - t) k i * (b - t)) (b ^ k * b)).length + 1) = true then some (D.lst (((List.range (k + 1)).map fun i => Q (bn t (b - t) k i * (b - t)) (b ^ k * b)) ++ [.tup [.int 0, .int 1]])) else none) = _
    rw [if_pos (okLen_of (by simp; omega)), Lg_zero hk1]
  -- the loop
  have lo : evS (callD Pr.dfOf n) (.for_ (.tp (.cons (.nm 6) (.cons (.nm 7) (.nil)))) (.enm (.var 2)) (.cons (.set 5 (.e (.bin .add (.pek 6) (.e (.cst (.int 1))))) (.cal 30 (.val (.idx (.pek 5) (.e (.bin .add (.pek 6) (.e (.cst (.int 1)))))) (.val (.cal 31 (.val (.var 7) (.val (.var 1) (.nil)))) (.nil))))) (.nil))) (stJ m t b (.sh (.lst (J t b k))) s4 (.ow (.lst (Lg t b k 0))) s6 s7) =
      .nx (stJ m t b (.sh (.lst (J t b k))) s4 (.ow (.lst (Lg t b k (k + 1)))) (.sh (.int k)) (.sh (Q (bn t (b - t) k k) (b ^ k)))) := by
    have := for_ix (cf := callD Pr.dfOf n) (g := .tp (.cons (.nm 6) (.cons (.nm 7) (.nil)))) (b := .cons (.set 5 (.e (.bin .add (.pek 6) (.e (.cst (.int 1))))) (.cal 30 (.val (.idx (.pek 5) (.e (.bin .add (.pek 6) (.e (.cst (.int 1)))))) (.val (.cal 31 (.val (.var 7) (.val (.var 1) (.nil)))) (.nil))))) (.nil)) (it := .enm (.var 2)) (k := k + 1)
      (Γ := stJ m t b (.sh (.lst (J t b k))) s4 (.ow (.lst (Lg t b k 0))) s6 s7) (Γ1 := stJ m t b (.sh (.lst (J t b k))) s4 (.ow (.lst (Lg t b k 0))) s6 s7) (h := fun i => .tup [.int i, Q (bn t (b - t) k i) (b ^ k)]) (by rw [ev_enm (fr := false) (xs := J t b k) rfl]; unfold J; rw [enum_map])
      (fun i => match i with
        | 0 => stJ m t b (.sh (.lst (J t b k))) s4 (.ow (.lst (Lg t b k 0))) s6 s7
        | i + 1 => stJ m t b (.sh (.lst (J t b k))) s4 (.ow (.lst (Lg t b k (i + 1)))) (.sh (.int i)) (.sh (Q (bn t (b - t) k i) (b ^ k)))) rfl fun i hi => by
          refine ⟨stJ m t b (.sh (.lst (J t b k))) s4 (.ow (.lst (Lg t b k i))) (.sh (.int i)) (.sh (Q (bn t (b - t) k i) (b ^ k))), ?_, .inl ?_⟩
          · cases i with
            | zero => rcases h6 with rfl | ⟨_, rfl⟩ <;> rcases h7 with rfl | ⟨_, rfl⟩ <;> rfl
            | succ i => rfl
          · have e1 : ((i : Int) + 1) = ((i + 1 : Nat) : Int) := rfl
            have g1 : L2.atI (Lg t b k i) ((i + 1 : Nat) : Int) = some (Q (lw t (b - t) k i (i + 1)) (b ^ (k + 1))) := map_get (by omega) _
            have wb := lw_b (i := i) (j := i + 1) hk1
            have wt := lw_b (i := i + 1) (j := i + 1) hk1
            have lwe : lw t (b - t) k (i + 1) (i + 1) = lw t (b - t) k i (i + 1) + bn t (b - t) k i * t := by
              unfold lw
              rw [if_pos (by omega), if_neg (by omega), Nat.add_sub_cancel]
              omega
            have bt : Sm (bn t (b - t) k i * t) := by
              have c0 := Int.mul_nonneg (bn_le (i := i) hk0).1 h.t0
              exact sm1800 (sm_le (y := b ^ (k + 1)) (by rw [lwe] at wt; omega) r2)
            have pl := plus_Q (n := n) hn r1 (sm1800 (sm_le wb r2)) bt (sm1800 r2)
            rw [← lwe] at pl
            have ix : L2.ixN (k + 2) ((i + 1 : Nat) : Int) = some (i + 1) := by
              unfold L2.ixN
              rw [if_pos (by omega), Int.toNat_natCast, if_pos (by omega)]
            have sm' : (Lg t b k i).set (i + 1) (Q (lw t (b - t) k (i + 1) (i + 1)) (b ^ (k + 1))) = Lg t b k (i + 1) := by
              refine set_map (i := i + 1) (by omega) _ (fun j => Q (lw t (b - t) k (i + 1) j) (b ^ (k + 1))) fun j hj => ?_
              congr 1
              unfold lw
              by_cases hc : 1 ≤ j ∧ j ≤ i
              · rw [if_pos hc, if_pos (by omega)]
              · rw [if_neg hc, if_neg (by omega)]
            simp only [stJ, okl0, okl1, okl2, okl3, okl4, okl5, okl6, okl7, okl8, runDf, runCore, inSl, evSs, evS, evE, evP, evT, evTs, evO, evEs, evAs, evI, evX, Res.bind, liftO, Hd.get, getA, getO, Sl.get?, store, bindF, bind1, bindL, storeL, bopD, copD, truD, b1D, b2D, idxD, slcD, augD, putC, isBox, isL, isC, getAll, Ah.get, refsOf, valsOf, putBack, outs, isX, isiD, optI, List.getElem?_cons_zero, List.getElem?_cons_succ, List.getElem?_nil, List.set_cons_zero, List.set_cons_succ, List.map_cons, List.map_nil, Option.map_some, Option.bind_some, Option.isSome_some, List.cons_append, List.nil_append, List.replicate_succ, List.replicate_zero, List.length_cons, List.length_nil, if_true, if_false, Bool.false_eq_true, reduceIte, ite_true, ite_false, setD, e1, g1, tc, pl, Lg_len, ix, sm', List.nodup_nil]
    exact this
  refine (ss_nx lo).trans ?_
  rw [Lg_end]
  rfl
theorem s_just {n m : Nat} {t b : Int} (hn : 3 ≤ n) (h : Ok m t b) (hg : Int.gcd t b = 1) (hm : 1 ≤ m) : callD Pr.dfOf n 41 [.int m, .tup [.int t, .int b]] = some (.ok (.lst (J t b m)) false []) := by
  obtain ⟨k, rfl, hk⟩ := up hn
  rw [callD_def (d := d__law_just) rfl]
  have hm60 := h.m
  have ls := s_lless (n := k) (by omega) (p := 1) (q := 1) (Sm.of (k := 2) (by decide) (by decide)) (Sm.of (k := 2) (by decide) (by decide)) h.sm_t h.sb (by decide) h.b0
  rw [Int.one_mul, Int.mul_one] at ls
  refine run_rt (Γ0 := [.sh (.int m), .sh (.tup [.int t, .int b]), .no, .no, .no, .no, .no, .no]) rfl rfl ?_ (Γ' := stJ m t b (.sh (.lst (J t b m))) (.sh (.int (m - 1 : Nat))) (.sh (.lst (J t b m))) (.sh (.int (m - 1 : Nat))) (.sh (Q (bn t (b - t) (m - 1) (m - 1)) (b ^ (m - 1))))) rfl
  refine (ss_nx (Γ1 := stJ m t b (.ow (.lst (J t b 0))) .no .no .no .no) ?_).trans ?_
  · rw [J0]
    simp only [stJ, okl0, okl1, okl2, okl3, okl4, okl5, okl6, okl7, okl8, runDf, runCore, inSl, evSs, evS, evE, evP, evT, evTs, evO, evEs, evAs, evI, evX, Res.bind, liftO, Hd.get, getA, getO, Sl.get?, store, bindF, bind1, bindL, storeL, bopD, copD, truD, b1D, b2D, idxD, slcD, augD, putC, isBox, isL, isC, getAll, Ah.get, refsOf, valsOf, putBack, outs, isX, isiD, optI, List.getElem?_cons_zero, List.getElem?_cons_succ, List.getElem?_nil, List.set_cons_zero, List.set_cons_succ, List.map_cons, List.map_nil, Option.map_some, Option.bind_some, Option.isSome_some, List.cons_append, List.nil_append, List.replicate_succ, List.replicate_zero, List.length_cons, List.length_nil, if_true, if_false, Bool.false_eq_true, reduceIte, ite_true, ite_false, ls, List.nodup_nil]
  have lo := for_rng (cf := callD Pr.dfOf k) (g := .nm 4) (b := (.cons (.asg (.nm 5) (.bin .add (.e (.cmp1 (.cal 31 (.val (.var 7) (.val (.var 3) (.nil)))) (.nm 7) (.seq (.var 2)) (.nil) [7] 8)) (.e (.lst (.cons (.tup (.cons (.cst (.int 0)) (.cons (.cst (.int 1)) (.nil)))) (.nil)))))) (.cons (.for_ (.tp (.cons (.nm 6) (.cons (.nm 7) (.nil)))) (.enm (.var 2)) (.cons (.set 5 (.e (.bin .add (.pek 6) (.e (.cst (.int 1))))) (.cal 30 (.val (.idx (.pek 5) (.e (.bin .add (.pek 6) (.e (.cst (.int 1)))))) (.val (.cal 31 (.val (.var 7) (.val (.var 1) (.nil)))) (.nil))))) (.nil))) (.cons (.asg (.nm 2) (.var 5)) (.nil))))) (it := .rng1 (.pek 0)) (k := m)
    (Γ := stJ m t b (.ow (.lst (J t b 0))) .no .no .no .no) (Γ1 := stJ m t b (.ow (.lst (J t b 0))) .no .no .no .no) (ev_rng1 rfl rfl (by omega)) (fun i => match i with
      | 0 => stJ m t b (.ow (.lst (J t b 0))) .no .no .no .no
      | i + 1 => stJ m t b (.sh (.lst (J t b (i + 1)))) (.sh (.int i)) (.sh (.lst (J t b (i + 1)))) (.sh (.int i)) (.sh (Q (bn t (b - t) i i) (b ^ i)))) rfl fun i hi => by
        cases i with
        | zero => exact ⟨stJ m t b (.ow (.lst (J t b 0))) (.sh (.int (0 : Nat))) .no .no .no, rfl, .inl (just_lap (by omega) h hg hi (.inr rfl) (.inl rfl) (.inl rfl) (.inl rfl))⟩
        | succ i => exact ⟨stJ m t b (.sh (.lst (J t b (i + 1)))) (.sh (.int (i + 1 : Nat))) (.sh (.lst (J t b (i + 1)))) (.sh (.int i)) (.sh (Q (bn t (b - t) i i) (b ^ i))), rfl, .inl (just_lap (by omega) h hg hi (.inl rfl) (.inr ⟨_, rfl⟩) (.inr ⟨_, rfl⟩) (.inr ⟨_, rfl⟩))⟩
  obtain ⟨m, rfl⟩ : ∃ m', m = m' + 1 := ⟨m - 1, by omega⟩
  refine (ss_nx lo).trans ?_
  rfl
end Dn.K69
end

section
set_option linter.all false
set_option autoImplicit false
set_option maxRecDepth 100000
set_option Elab.async false
set_option exponentiation.threshold 500000
/-! M69I: the law's sums, ends. -/
namespace Dn.K69
open PySem PySem.Spec PyProof.Rows L2 Dn
def Qs (D' : Int) (xs : List Int) : List D := xs.map fun x => Q x D'
theorem sum_loop {n : Nat} {d y : Int} (hn : 2 ≤ n) (hd : 0 < d) (hs : Sm d) (hy : y.natAbs ≤ 2 ^ 1800) {l : D} : ∀ (xs : List Int) (a : Int), (∀ x ∈ xs, 0 ≤ x) → 0 ≤ a → a + xs.sum ≤ y → ∀ {s2 : Sl}, Fs s2 →
    ∃ s2', forL (fun x Γ => match bind1 Γ (.nm 2) x with
      | some Γ' => evSs (callD Pr.dfOf n) (.cons (.asg (.nm 1) (.cal 30 (.val (.var 1) (.val (.var 2) (.nil))))) (.nil)) Γ'
      | none => .no) (Qs d xs) [.sh l, .sh (Q a d), s2] = .nx [.sh l, .sh (Q (a + xs.sum) d), s2']
  | [], a, _, _, _, s2, _ => ⟨s2, by rw [List.sum_nil, Int.add_zero]; rfl⟩
  | x :: xs, a, h, ha, hb, s2, h2 => by
    have x0 := h x List.mem_cons_self
    have r0 : 0 ≤ xs.sum := sum0 xs fun z hz => h z (List.mem_cons_of_mem _ hz)
    rw [List.sum_cons] at hb
    have pl := plus_Q (n := n) hn hd (x := a) (y := x) (sm1800 (by omega)) (sm1800 (by omega)) hs
    obtain ⟨s2', e⟩ := sum_loop hn hd hs hy (l := l) xs (a + x) (fun z hz => h z (List.mem_cons_of_mem _ hz)) (by omega) (by omega) (s2 := .sh (Q x d)) (.inr ⟨_, rfl⟩)
    refine ⟨s2', ?_⟩
    have b : bind1 [.sh l, .sh (Q a d), s2] (.nm 2) (Q x d) = some [.sh l, .sh (Q a d), .sh (Q x d)] := by rcases h2 with rfl | ⟨_, rfl⟩ <;> rfl
    have st : evSs (callD Pr.dfOf n) (.cons (.asg (.nm 1) (.cal 30 (.val (.var 1) (.val (.var 2) (.nil))))) (.nil)) [.sh l, .sh (Q a d), .sh (Q x d)] = .nx [.sh l, .sh (Q (a + x) d), .sh (Q x d)] := by
      simp only [okl0, okl1, okl2, okl3, okl4, okl5, okl6, okl7, okl8, runDf, runCore, inSl, evSs, evS, evE, evP, evT, evTs, evO, evEs, evAs, evI, evX, Res.bind, liftO, Hd.get, getA, getO, Sl.get?, store, bindF, bind1, bindL, storeL, bopD, copD, truD, b1D, b2D, idxD, slcD, augD, putC, isBox, isL, isC, getAll, Ah.get, refsOf, valsOf, putBack, outs, isX, isiD, optI, List.getElem?_cons_zero, List.getElem?_cons_succ, List.getElem?_nil, List.set_cons_zero, List.set_cons_succ, List.map_cons, List.map_nil, Option.map_some, Option.bind_some, Option.isSome_some, List.cons_append, List.nil_append, List.replicate_succ, List.replicate_zero, List.length_cons, List.length_nil, if_true, if_false, Bool.false_eq_true, reduceIte, ite_true, ite_false, pl, List.nodup_nil]
    rw [List.sum_cons, ← Int.add_assoc, ← e]
    show forL _ (Q x d :: Qs d xs) _ = _
    conv => lhs; unfold forL
    rw [b]
    dsimp only
    rw [st]
where
  sum0 : ∀ xs : List Int, (∀ x ∈ xs, 0 ≤ x) → 0 ≤ xs.sum
    | [], _ => by rw [List.sum_nil]; omega
    | x :: xs, h => by
      rw [List.sum_cons]
      have := h x List.mem_cons_self
      have := sum0 xs fun z hz => h z (List.mem_cons_of_mem _ hz)
      omega
theorem s_sum {n : Nat} {d y : Int} {xs : List Int} (hn : 3 ≤ n) (hd : 0 < d) (hs : Sm d) (hy : y.natAbs ≤ 2 ^ 1800) (h0 : ∀ x ∈ xs, 0 ≤ x) (hb : xs.sum ≤ y) : callD Pr.dfOf n 33 [.lst (Qs d xs)] = some (.ok (Q xs.sum d) false []) := by
  obtain ⟨k, rfl, hk⟩ := up hn
  rw [callD_def (d := d__law_sum) rfl]
  obtain ⟨s2', e⟩ := sum_loop (n := k) (by omega) hd hs hy (l := .lst (Qs d xs)) xs 0 h0 (by omega) (by omega) (s2 := .no) (.inl rfl)
  rw [Int.zero_add] at e
  refine run_rt (Γ0 := [.sh (.lst (Qs d xs)), .no, .no]) rfl rfl ?_ (Γ' := [.sh (.lst (Qs d xs)), .sh (Q xs.sum d), s2']) rfl
  refine (ss_nx (Γ1 := [.sh (.lst (Qs d xs)), .sh (Q 0 d), .no]) (by rw [Q_zero hd]; rfl)).trans ?_
  refine (ss_nx (e_for (ev_seqL (fr := false) rfl) e)).trans ?_
  rfl
theorem J_Qs (t b : Int) (m : Nat) : J t b m = Qs (b ^ m) ((List.range (m + 1)).map (bn t (b - t) m)) := by
  unfold J Qs
  rw [List.map_map]
  rfl
theorem mem_bn {t b : Int} {m : Nat} (h : Ok m t b) : ∀ x ∈ (List.range (m + 1)).map (bn t (b - t) m), 0 ≤ x := fun x hx => by
  obtain ⟨i, _, rfl⟩ := List.mem_map.mp hx
  exact (bn_le h).1
theorem sum_from {n m s : Nat} {t b : Int} (hn : 3 ≤ n) (h : Ok m t b) (hs : s ≤ m) : callD Pr.dfOf n 33 [.lst (cutD (J t b m) (some (s : Int)) none)] = some (.ok (Q (hi t (b - t) m s) (b ^ m)) false []) := by
  obtain ⟨p1, p2⟩ := powB h
  rw [J_Qs, cut_from]
  unfold Qs
  rw [← List.map_drop, ← hi_sum t (b - t) (show s ≤ m + 1 by omega)]
  exact s_sum hn p1 (sm1800 p2) p2 (fun x hx => mem_bn h x (List.mem_of_mem_drop hx)) (by rw [hi_sum _ _ (by omega)]; exact (hi_b h (by omega)).2)
theorem sum_to {n m s : Nat} {t b : Int} (hn : 3 ≤ n) (h : Ok m t b) (hs : s ≤ m) : callD Pr.dfOf n 33 [.lst (cutD (J t b m) none (some ((s + 1 : Nat) : Int)))] = some (.ok (Q (lo t (b - t) m s) (b ^ m)) false []) := by
  obtain ⟨p1, p2⟩ := powB h
  rw [J_Qs, cut_to]
  unfold Qs
  rw [← List.map_take, ← lo_sum t (b - t) hs]
  exact s_sum hn p1 (sm1800 p2) p2 (fun x hx => mem_bn h x (List.mem_of_mem_take hx)) (by rw [lo_sum _ _ hs]; exact (lo_b h hs).2)
theorem s_half {n : Nat} {e0 e1 : Int} (hn : 2 ≤ n) (he : Er e0 e1) : callD Pr.dfOf n 31 [.tup [.int e0, .int e1], .tup [.int 1, .int 2]] = some (.ok (Q (e0 * 1) (e1 * 2)) false []) :=
  s_ltimes hn he.s0.1 he.s0.2 (Sm.of (k := 2) (by decide) (by decide)) two_sm he.b0 (by decide)
theorem s_law_in {n m s : Nat} {t b e0 e1 : Int} (hn : 4 ≤ n) (h : Ok m t b) (hg : Int.gcd t b = 1) (hm : 1 ≤ m) (hs : s ≤ m) (he : Er e0 e1) : callD Pr.dfOf n 42 [.int m, .int s, .tup [.int e0, .int e1], .tup [.int t, .int b]] = some (.ok (.bl (inS t (b - t) m s (b ^ m) e0 e1)) false []) := by
  obtain ⟨k, rfl, hk⟩ := up hn
  rw [callD_def (d := d__law_is_in) rfl]
  obtain ⟨p1, p2⟩ := powB h
  obtain ⟨x1, x2, x3⟩ := he.half
  have j := s_just (n := k) hk h hg hm
  have hf := s_half (n := k) (by omega) he
  have sf := sum_from (n := k) hk h hs
  have st := sum_to (n := k) hk h hs
  have l1 := lis_less_Q (n := k) (by omega) p1 x2 (sm1800 (sm_le (hi_b h (show s ≤ m + 1 by omega)) p2)) x1 (sm1800 p2) x3
  have l2 := lis_less_Q (n := k) (by omega) p1 x2 (sm1800 (sm_le (lo_b h hs) p2)) x1 (sm1800 p2) x3
  have es : ((s : Int) + 1) = ((s + 1 : Nat) : Int) := rfl
  have r1 : decide (hi t (b - t) m s * (e1 * 2) < e0 * 1 * b ^ m) = !decide (e0 * b ^ m ≤ hi t (b - t) m s * 2 * e1) := by
    rw [← decide_not]
    refine decide_eq_decide.mpr ?_
    rw [Int.mul_one, show hi t (b - t) m s * (e1 * 2) = hi t (b - t) m s * 2 * e1 by grind]
    omega
  have r2 : decide (lo t (b - t) m s * (e1 * 2) < e0 * 1 * b ^ m) = !decide (e0 * b ^ m ≤ lo t (b - t) m s * 2 * e1) := by
    rw [← decide_not]
    refine decide_eq_decide.mpr ?_
    rw [Int.mul_one, show lo t (b - t) m s * (e1 * 2) = lo t (b - t) m s * 2 * e1 by grind]
    omega
  rw [r1] at l1
  rw [r2] at l2
  unfold inS
  cases hd : decide (e0 * b ^ m ≤ hi t (b - t) m s * 2 * e1) with
  | true =>
    rw [hd] at l1
    simp only [d__law_is_in, df__law_is_in, okl0, okl1, okl2, okl3, okl4, okl5, okl6, okl7, okl8, runDf, runCore, inSl, evSs, evS, evE, evP, evT, evTs, evO, evEs, evAs, evI, evX, Res.bind, liftO, Hd.get, getA, getO, Sl.get?, store, bindF, bind1, bindL, storeL, bopD, copD, truD, b1D, b2D, idxD, slcD, augD, putC, isBox, isL, isC, getAll, Ah.get, refsOf, valsOf, putBack, outs, isX, isiD, optI, List.getElem?_cons_zero, List.getElem?_cons_succ, List.getElem?_nil, List.set_cons_zero, List.set_cons_succ, List.map_cons, List.map_nil, Option.map_some, Option.bind_some, Option.isSome_some, List.cons_append, List.nil_append, List.replicate_succ, List.replicate_zero, List.length_cons, List.length_nil, if_true, if_false, Bool.false_eq_true, reduceIte, ite_true, ite_false, j, hf, sf, es, st, l1, l2, Bool.not_true, Bool.not_false, Bool.not_not, Bool.true_and, List.nodup_nil]
  | false =>
    rw [hd] at l1
    simp only [d__law_is_in, df__law_is_in, okl0, okl1, okl2, okl3, okl4, okl5, okl6, okl7, okl8, runDf, runCore, inSl, evSs, evS, evE, evP, evT, evTs, evO, evEs, evAs, evI, evX, Res.bind, liftO, Hd.get, getA, getO, Sl.get?, store, bindF, bind1, bindL, storeL, bopD, copD, truD, b1D, b2D, idxD, slcD, augD, putC, isBox, isL, isC, getAll, Ah.get, refsOf, valsOf, putBack, outs, isX, isiD, optI, List.getElem?_cons_zero, List.getElem?_cons_succ, List.getElem?_nil, List.set_cons_zero, List.set_cons_succ, List.map_cons, List.map_nil, Option.map_some, Option.bind_some, Option.isSome_some, List.cons_append, List.nil_append, List.replicate_succ, List.replicate_zero, List.length_cons, List.length_nil, if_true, if_false, Bool.false_eq_true, reduceIte, ite_true, ite_false, j, hf, sf, es, st, l1, l2, Bool.not_true, Bool.not_false, Bool.not_not, Bool.false_and, List.nodup_nil]
theorem s_exact {n : Nat} {x d : Int} (hn : 2 ≤ n) (hd : 0 < d) (hx : Sm x) (hs : Sm d) : callD Pr.dfOf n 35 [Q x d] = some (.ok (.bl true) false []) := by
  obtain ⟨k, rfl, hk⟩ := up hn
  obtain ⟨a1, a2, a3, a4, a5⟩ := nf_spec (x := x) hd
  have m := hx.nf hd hs
  unfold Q
  generalize (nfP x d).1 = p at *
  generalize (nfP x d).2 = q at *
  rw [callD_def (d := d__law_is_exact) rfl]
  refine run_rt (Γ0 := [.sh (.tup [.int p, .int q]), .no]) rfl rfl ?_ (Γ' := [.sh (.tup [.int p, .int q]), .no]) rfl
  have c1 := cmp_map (cf := callD Pr.dfOf k) (Γ := [.sh (.tup [.int p, .int q]), .no]) (Γ1 := [.sh (.tup [.int p, .int q]), .no]) (Γ2 := [.sh (.tup [.int p, .int q]), .no]) (xs := [.int p, .int q]) (own := [1]) (n := 2) (g := .nm 1) (it := .seq (.var 0)) (elt := .bl1 (.isi .int) (.pek 1)) rfl rfl (fun _ => .bl true) (by simp) rfl fun x hx => by
    simp only [List.mem_cons, List.not_mem_nil, or_false] at hx
    rcases hx with rfl | rfl
    · exact ⟨_, false, _, rfl, rfl, rfl⟩
    · exact ⟨_, false, _, rfl, rfl, rfl⟩
  have c2 := cmp_map (cf := callD Pr.dfOf k) (Γ := [.sh (.tup [.int p, .int q]), .no]) (Γ1 := [.sh (.tup [.int p, .int q]), .no]) (Γ2 := [.sh (.tup [.int p, .int q]), .no]) (xs := [.int p, .int q]) (own := [1]) (n := 2) (g := .nm 1) (it := .seq (.var 0)) (elt := .bl1 (.isi .bool) (.pek 1)) rfl rfl (fun _ => .bl false) (by simp) rfl fun x hx => by
    simp only [List.mem_cons, List.not_mem_nil, or_false] at hx
    rcases hx with rfl | rfl
    · exact ⟨_, false, _, rfl, rfl, rfl⟩
    · exact ⟨_, false, _, rfl, rfl, rfl⟩
  have t1 : evE (callD Pr.dfOf k) (.bl1 .all (.e (.cmp1 (.bl1 (.isi .int) (.pek 1)) (.nm 1) (.seq (.var 0)) (.nil) [1] 2))) [.sh (.tup [.int p, .int q]), .no] = .ok (.bl true, false) [.sh (.tup [.int p, .int q]), .no] := ev_bl1 c1 rfl
  have t2 : evE (callD Pr.dfOf k) (.bl1 .any (.e (.cmp1 (.bl1 (.isi .bool) (.pek 1)) (.nm 1) (.seq (.var 0)) (.nil) [1] 2))) [.sh (.tup [.int p, .int q]), .no] = .ok (.bl false, false) [.sh (.tup [.int p, .int q]), .no] := ev_bl1 c2 rfl
  have lt : decide (q < 1) = false := decide_eq_false (by omega)
  refine (ss_nx (Γ1 := [.sh (.tup [.int p, .int q]), .no]) ((s_iteF (ev_or0 (Γ1 := [.sh (.tup [.int p, .int q]), .no]) rfl (ev_or0 (Γ1 := [.sh (.tup [.int p, .int q]), .no]) rfl (ev_not (c := true) (ev_tv t1))))).trans rfl)).trans ?_
  refine (ss_nx (Γ1 := [.sh (.tup [.int p, .int q]), .no]) ((s_iteF (ev_or0 (ev_tv t2) (by simp only [okl0, okl1, okl2, okl3, okl4, okl5, okl6, okl7, okl8, runDf, runCore, inSl, evSs, evS, evE, evP, evT, evTs, evO, evEs, evAs, evI, evX, Res.bind, liftO, Hd.get, getA, getO, Sl.get?, store, bindF, bind1, bindL, storeL, bopD, copD, truD, b1D, b2D, idxD, slcD, augD, putC, isBox, isL, isC, getAll, Ah.get, refsOf, valsOf, putBack, outs, isX, isiD, optI, List.getElem?_cons_zero, List.getElem?_cons_succ, List.getElem?_nil, List.set_cons_zero, List.set_cons_succ, List.map_cons, List.map_nil, Option.map_some, Option.bind_some, Option.isSome_some, List.cons_append, List.nil_append, List.replicate_succ, List.replicate_zero, List.length_cons, List.length_nil, if_true, if_false, Bool.false_eq_true, reduceIte, ite_true, ite_false, atI1, lt]))).trans rfl)).trans ?_
  have f := s_lfrac (n := k) (a := p) (b := q) (by omega) a1 (Nat.lt_of_lt_of_le m.2 (Nat.pow_le_pow_right (by decide) (by decide))) (Nat.lt_of_lt_of_le m.1 (Nat.pow_le_pow_right (by decide) (by decide)))
  rw [Q_red a1 a3] at f
  simp only [okl0, okl1, okl2, okl3, okl4, okl5, okl6, okl7, okl8, runDf, runCore, inSl, evSs, evS, evE, evP, evT, evTs, evO, evEs, evAs, evI, evX, Res.bind, liftO, Hd.get, getA, getO, Sl.get?, store, bindF, bind1, bindL, storeL, bopD, copD, truD, b1D, b2D, idxD, slcD, augD, putC, isBox, isL, isC, getAll, Ah.get, refsOf, valsOf, putBack, outs, isX, isiD, optI, List.getElem?_cons_zero, List.getElem?_cons_succ, List.getElem?_nil, List.set_cons_zero, List.set_cons_succ, List.map_cons, List.map_nil, Option.map_some, Option.bind_some, Option.isSome_some, List.cons_append, List.nil_append, List.replicate_succ, List.replicate_zero, List.length_cons, List.length_nil, if_true, if_false, Bool.false_eq_true, reduceIte, ite_true, ite_false, atI0, atI1, f, eq2, decide_true, Bool.and_self, List.nodup_nil]
/-! ### texts -/
theorem repr_ok {d : D} {p : PyData} (h1 : toP d = some p) (h2 : p.hasDict = false) (h3 : p.showable = true) (h4 : Nat.ble p.depth 60 = true) (h5 : p.leavesShort 13 = true) (h6 : p.weight ≤ 100000) : b1D .repr d = some (.str p.shown) := by
  have := PyData.shown_le 13 (by decide) p h5
  show (match toP d with
    | some p => if !p.hasDict && PyData.showable p && Nat.ble p.depth 60 && okLen p.shown.length then some (D.str p.shown) else none
    | none => none) = _
  rw [h1]
  dsimp only
  rw [h2, h3, h4, okLen_of (by omega)]
  rfl
theorem log_lt {i : Int} (h : i.natAbs < 10 ^ 12) : i.natAbs.log2 < 41 := log2_lt (Nat.lt_of_lt_of_le h (by decide)) (by decide)
theorem repr_pair {x y : Int} (hx : x.natAbs < 10 ^ 12) (hy : y.natAbs < 10 ^ 12) : ∃ z, b1D .repr (.tup [.int x, .int y]) = some (.str z) := by
  have l1 := log_lt hx
  have l2 := log_lt hy
  have s1 := PyData.shown_int_le hx
  have s2 := PyData.shown_int_le hy
  refine ⟨_, repr_ok (p := .tuple [.int x, .int y]) rfl rfl ?_ rfl ?_ ?_⟩
  · simp [PyData.showable, PyData.showableAll]; omega
  · simp [PyData.leavesShort, PyData.leavesShortAll]; omega
  · simp only [PyData.weight, PyData.weightAll]
    split <;> split <;> omega
theorem eq_str {z : Str} : eqD (.str z) (.str z) = some true := by
  show some (PyData.eqv (.str z) (.str z)) = _
  simp [PyData.eqv]
end Dn.K69
end

section
set_option linter.all false
set_option autoImplicit false
set_option maxRecDepth 100000
set_option Elab.async false
set_option exponentiation.threshold 500000
/-! M69J: ends are right. -/
namespace Dn.K69
open PySem PySem.Spec PyProof.Rows L2 Dn
/-! ### chances none and one -/
theorem bn0 (u : Int) : ∀ m i : Nat, 1 ≤ i → bn 0 u m i = 0
  | 0, i + 1, _ => rfl
  | m + 1, i + 1, _ => by
    show bn 0 u m (i + 1) * u + bn 0 u m i * 0 = 0
    rw [bn0 u m (i + 1) (by omega)]
    simp
theorem bn1 (t : Int) : ∀ m i : Nat, i < m → bn t 0 m i = 0
  | m + 1, 0, _ => by show bn t 0 m 0 * 0 = 0; simp
  | m + 1, i + 1, h => by
    show bn t 0 m (i + 1) * 0 + bn t 0 m i * t = 0
    rw [bn1 t m i (by omega)]
    simp
theorem sm0 (u : Int) (m : Nat) : ∀ s : Nat, 1 ≤ s → sm (bn 0 u m) s = bn 0 u m 0
  | 1, _ => by show 0 + bn 0 u m 0 = _; omega
  | s + 2, _ => by
    show sm (bn 0 u m) (s + 1) + bn 0 u m (s + 1) = _
    rw [sm0 u m (s + 1) (by omega), bn0 u m (s + 1) (by omega)]
    omega
theorem sm1 (t : Int) (m : Nat) : ∀ s : Nat, s ≤ m → sm (bn t 0 m) s = 0
  | 0, _ => rfl
  | s + 1, h => by
    show sm (bn t 0 m) s + bn t 0 m s = 0
    rw [sm1 t m s (by omega), bn1 t m s (by omega)]
    rfl
theorem bn00 : ∀ m : Nat, bn 0 1 m 0 = 1
  | 0 => rfl
  | m + 1 => by show bn 0 1 m 0 * 1 = 1; rw [bn00 m]; rfl
theorem tot1 (m : Nat) : sm (bn 1 0 m) (m + 1) = 1 := by rw [bn_sum]; exact Int.one_pow
theorem tot0 (m : Nat) : sm (bn 0 1 m) (m + 1) = 1 := by rw [bn_sum]; exact Int.one_pow
theorem nf0 {f : Int} (hf : 0 < f) : nfP 0 f = (0, 1) := (nf_eq hf (by decide) (by omega)).trans (show nfP 0 1 = (0, 1) from rfl)
theorem nff {f : Int} (hf : 0 < f) : nfP f f = (1, 1) := (nf_eq hf (by decide) (by omega)).trans (show nfP 1 1 = (1, 1) from rfl)
/-- is the tail below the half -/
def lsA (low : Bool) (m s : Nat) (x d f y : Int) : Bool := if low then decide (hi (nfP y f).1 ((nfP y f).2 - (nfP y f).1) m s * d < x * (nfP y f).2 ^ m) else decide (lo (nfP y f).1 ((nfP y f).2 - (nfP y f).1) m s * d < x * (nfP y f).2 ^ m)
theorem bef_ls {low : Bool} {m s : Nat} {x d f y : Int} : bef low m s x d f y = if low then lsA low m s x d f y else !lsA low m s x d f y := by
  cases low <;> rfl
section
variable {low : Bool} {m s : Nat} {e0 e1 : Int} {f l : Nat}
theorem ls_low (he : Er e0 e1) (hs : s ≤ m) (hf : 0 < f) (h : low = true → s ≠ 0) (h3 : l = 0 ∨ bef low m s (e0 * 1) (e1 * 2) f l = true) : lsA low m s (e0 * 1) (e1 * 2) f l = low := by
  rcases h3 with rfl | h3
  · have t1 := he.t1
    have b1 := he.b1
    unfold lsA
    rw [show ((0 : Nat) : Int) = 0 from rfl, nf0 (show (0 : Int) < (f : Int) by omega)]
    cases low with
    | true =>
      have hs1 : 1 ≤ s := by have := h rfl; omega
      rw [if_pos rfl]
      refine decide_eq_true ?_
      have e : hi 0 (1 - 0) m s = 0 := by
        unfold hi
        rw [show (1 : Int) - 0 = 1 from rfl, tot0, sm0 1 m s hs1, bn00]
        rfl
      rw [show ((0, 1) : Int × Int).1 = 0 from rfl, show ((0, 1) : Int × Int).2 = 1 from rfl, e, Int.one_pow]
      omega
    | false =>
      rw [if_neg Bool.false_ne_true]
      refine decide_eq_false ?_
      have e : lo 0 (1 - 0) m s = 1 := by
        unfold lo
        rw [show (1 : Int) - 0 = 1 from rfl, sm0 1 m (s + 1) (by omega), bn00]
      rw [show ((0, 1) : Int × Int).1 = 0 from rfl, show ((0, 1) : Int × Int).2 = 1 from rfl, e, Int.one_pow]
      omega
  · rw [bef_ls] at h3
    cases low with
    | true => exact h3
    | false =>
      rw [if_neg Bool.false_ne_true] at h3
      simpa using h3
theorem ls_high (he : Er e0 e1) (hs : s ≤ m) (hf : 0 < f) (h2 : low = false → s ≠ m) (h4 : l + 1 = f ∨ bef low m s (e0 * 1) (e1 * 2) f (l + 1 : Nat) = false) : lsA low m s (e0 * 1) (e1 * 2) f (l + 1 : Nat) = !low := by
  rcases h4 with h4 | h4
  · have t1 := he.t1
    have b1 := he.b1
    unfold lsA
    rw [h4, nff (show (0 : Int) < (f : Int) by omega)]
    cases low with
    | true =>
      rw [if_pos rfl]
      refine decide_eq_false ?_
      have e : hi 1 (1 - 1) m s = 1 := by
        unfold hi
        rw [show (1 : Int) - 1 = 0 from rfl, tot1, sm1 1 m s hs]
        rfl
      rw [show ((1, 1) : Int × Int).1 = 1 from rfl, show ((1, 1) : Int × Int).2 = 1 from rfl, e, Int.one_pow]
      omega
    | false =>
      have hs1 := h2 rfl
      rw [if_neg Bool.false_ne_true]
      refine decide_eq_true ?_
      have e : lo 1 (1 - 1) m s = 0 := by
        unfold lo
        rw [show (1 : Int) - 1 = 0 from rfl, sm1 1 m (s + 1) (by omega)]
      rw [show ((1, 1) : Int × Int).1 = 1 from rfl, show ((1, 1) : Int × Int).2 = 1 from rfl, e, Int.one_pow]
      omega
  · rw [bef_ls] at h4
    cases low with
    | true => exact h4
    | false =>
      rw [if_neg Bool.false_ne_true] at h4
      simpa using h4
/-- a lap of the tails' loop -/
abbrev stT (m s : Nat) (e0 e1 : Int) (low : Bool) (f : Nat) (told : D) (ts : List D) (s8 s9 : Sl) : Env := [.sh (.int m), .sh (.int s), .sh (.tup [.int e0, .int e1]), .sh (.str (sideS low)), .sh (.int f), .sh told, .sh (Q (e0 * 1) (e1 * 2)), .ow (.lst ts), s8, s9, .no]
theorem tail_lap {k : Nat} {y : Int} {told : D} {ts : List D} {s8 s9 : Sl} (hk : 4 ≤ k) (hm1 : 1 ≤ m) (hm : m ≤ 60) (hs : s ≤ m) (he : Er e0 e1) (hf : 0 < f) (hl : f ≤ 1000000) (h0 : 0 ≤ y) (h1 : y ≤ f) (h8 : Fs s8) (h9 : Fs s9) (hts : ts.length ≤ 100) :
    ∃ Γ', bind1 (stT m s e0 e1 low f told ts s8 s9) (.nm 8) (Q y f) = some Γ' ∧ ∃ j, evSs (callD Pr.dfOf k) (.cons (.asg (.nm 9) (.cal 41 (.val (.var 0) (.val (.var 8) (.nil))))) (.cons (.app 7 (.cal 34 (.val (.cal 33 (.val (.ite (.val (.e (.cmp .eq (.pek 3) (.e (.cst (.str "low")))))) (.slc (.pek 9) (.so (.pek 1)) (.no)) (.slc (.pek 9) (.no) (.so (.e (.bin .add (.pek 1) (.e (.cst (.int 1)))))))) (.nil))) (.val (.var 6) (.nil))))) (.nil))) Γ' = .nx (stT m s e0 e1 low f told (ts ++ [.bl (lsA low m s (e0 * 1) (e1 * 2) f y)]) (.sh (Q y f)) (.sh j)) := by
  refine ⟨stT m s e0 e1 low f told ts (.sh (Q y f)) s9, by rcases h8 with rfl | ⟨_, rfl⟩ <;> rfl, .lst (J (nfP y f).1 (nfP y f).2 m), ?_⟩
  have ok := nf_ok (m := m) hm h0 h1 (show (0 : Int) < (f : Int) by omega) (by omega)
  obtain ⟨a1, a2, a3, a4, a5⟩ := nf_spec (x := y) (show (0 : Int) < (f : Int) by omega)
  obtain ⟨p1, p2⟩ := powB ok
  obtain ⟨x1, x2, x3⟩ := he.half
  have j : callD Pr.dfOf k 41 [.int m, Q y f] = some (.ok (.lst (J (nfP y f).1 (nfP y f).2 m)) false []) := s_just (n := k) (by omega) ok a3 hm1
  have sf := sum_from (n := k) (by omega) ok hs
  have st := sum_to (n := k) (by omega) ok hs
  have es : ((s : Int) + 1) = ((s + 1 : Nat) : Int) := rfl
  have l1 := lis_less_Q (n := k) (by omega) p1 x2 (sm1800 (sm_le (hi_b ok (show s ≤ m + 1 by omega)) p2)) x1 (sm1800 p2) x3
  have l2 := lis_less_Q (n := k) (by omega) p1 x2 (sm1800 (sm_le (lo_b ok hs) p2)) x1 (sm1800 p2) x3
  have ol : okLen ts.length = true := okLen_of (by omega)
  have st9 : store (stT m s e0 e1 low f told ts (.sh (Q y f)) s9) 9 (.lst (J (nfP y f).1 (nfP y f).2 m)) false = some (stT m s e0 e1 low f told ts (.sh (Q y f)) (.sh (.lst (J (nfP y f).1 (nfP y f).2 m)))) := by
    rcases h9 with rfl | ⟨_, rfl⟩ <;> rfl
  refine (ss_nx (e_asgN (d := .lst (J (nfP y f).1 (nfP y f).2 m)) (fr := false) (Γ1 := stT m s e0 e1 low f told ts (.sh (Q y f)) s9) ?_ st9)).trans ?_
  · simp only [stT, okl0, okl1, okl2, okl3, okl4, okl5, okl6, okl7, okl8, runDf, runCore, inSl, evSs, evS, evE, evP, evT, evTs, evO, evEs, evAs, evI, evX, Res.bind, liftO, Hd.get, getA, getO, Sl.get?, store, bindF, bind1, bindL, storeL, bopD, copD, truD, b1D, b2D, idxD, slcD, augD, putC, isBox, isL, isC, getAll, Ah.get, refsOf, valsOf, putBack, outs, isX, isiD, optI, List.getElem?_cons_zero, List.getElem?_cons_succ, List.getElem?_nil, List.set_cons_zero, List.set_cons_succ, List.map_cons, List.map_nil, Option.map_some, Option.bind_some, Option.isSome_some, List.cons_append, List.nil_append, List.replicate_succ, List.replicate_zero, List.length_cons, List.length_nil, if_true, if_false, Bool.false_eq_true, reduceIte, ite_true, ite_false, j, List.nodup_nil]
  · cases low with
    | true =>
      unfold lsA
      simp only [stT, okl0, okl1, okl2, okl3, okl4, okl5, okl6, okl7, okl8, runDf, runCore, inSl, evSs, evS, evE, evP, evT, evTs, evO, evEs, evAs, evI, evX, Res.bind, liftO, Hd.get, getA, getO, Sl.get?, store, bindF, bind1, bindL, storeL, bopD, copD, truD, b1D, b2D, idxD, slcD, augD, putC, isBox, isL, isC, getAll, Ah.get, refsOf, valsOf, putBack, outs, isX, isiD, optI, List.getElem?_cons_zero, List.getElem?_cons_succ, List.getElem?_nil, List.set_cons_zero, List.set_cons_succ, List.map_cons, List.map_nil, Option.map_some, Option.bind_some, Option.isSome_some, List.cons_append, List.nil_append, List.replicate_succ, List.replicate_zero, List.length_cons, List.length_nil, if_true, if_false, Bool.false_eq_true, reduceIte, ite_true, ite_false, side_eq, sf, l1, ol, List.nodup_nil]
    | false =>
      unfold lsA
      simp only [stT, okl0, okl1, okl2, okl3, okl4, okl5, okl6, okl7, okl8, runDf, runCore, inSl, evSs, evS, evE, evP, evT, evTs, evO, evEs, evAs, evI, evX, Res.bind, liftO, Hd.get, getA, getO, Sl.get?, store, bindF, bind1, bindL, storeL, bopD, copD, truD, b1D, b2D, idxD, slcD, augD, putC, isBox, isL, isC, getAll, Ah.get, refsOf, valsOf, putBack, outs, isX, isiD, optI, List.getElem?_cons_zero, List.getElem?_cons_succ, List.getElem?_nil, List.set_cons_zero, List.set_cons_succ, List.map_cons, List.map_nil, Option.map_some, Option.bind_some, Option.isSome_some, List.cons_append, List.nil_append, List.replicate_succ, List.replicate_zero, List.length_cons, List.length_nil, if_true, if_false, Bool.false_eq_true, reduceIte, ite_true, ite_false, side_eq, es, st, l2, ol, List.nodup_nil]
theorem tails_eq (low : Bool) : eqD (.lst [.bl low, .bl (!low)]) (if low then .lst [.bl true, .bl false] else .lst [.bl false, .bl true]) = some true := by cases low <;> rfl
theorem s_end_right {n : Nat} {told : D} (hn : 5 ≤ n) (hm1 : 1 ≤ m) (hm : m ≤ 60) (hs : s ≤ m) (he : Er e0 e1) (hf : 1 ≤ f) (hl : f ≤ 1000000) (ht : EndR low m s e0 e1 f told) :
    callD Pr.dfOf n 43 [.int m, .int s, .tup [.int e0, .int e1], .str (sideS low), .int f, told] = some (.ok (.bl true) false []) := by
  obtain ⟨k, rfl, hk⟩ := up hn
  rw [callD_def (d := d__law_is_end_right) rfl]
  have e00 : decide ((s : Int) = 0) = decide (s = 0) := decide_eq_decide.mpr (by omega)
  have e0' : decide ((s : Int) = (m : Int)) = decide (s = m) := decide_eq_decide.mpr (by omega)
  cases ht with
  | zero h h2 =>
    subst h
    have h0' : decide (s = 0) = true := decide_eq_true h2
    have ee : eqD (.tup [.tup [.int 0, .int 1], .tup [.int 0, .int 1]]) (.tup [.tup [.int 0, .int 1], .tup [.int 0, .int 1]]) = some true := rfl
    refine run_rt (Γ0 := [.sh (.int m), .sh (.int s), .sh (.tup [.int e0, .int e1]), .sh (.str (sideS true)), .sh (.int f), .sh (.tup [.tup [.int 0, .int 1], .tup [.int 0, .int 1]]), .no, .no, .no, .no, .no]) rfl rfl ?_ (Γ' := [.sh (.int m), .sh (.int s), .sh (.tup [.int e0, .int e1]), .sh (.str (sideS true)), .sh (.int f), .sh (.tup [.tup [.int 0, .int 1], .tup [.int 0, .int 1]]), .no, .no, .no, .no, .no]) rfl
    refine ss_rt ?_
    simp only [okl0, okl1, okl2, okl3, okl4, okl5, okl6, okl7, okl8, runDf, runCore, inSl, evSs, evS, evE, evP, evT, evTs, evO, evEs, evAs, evI, evX, Res.bind, liftO, Hd.get, getA, getO, Sl.get?, store, bindF, bind1, bindL, storeL, bopD, copD, truD, b1D, b2D, idxD, slcD, augD, putC, isBox, isL, isC, getAll, Ah.get, refsOf, valsOf, putBack, outs, isX, isiD, optI, List.getElem?_cons_zero, List.getElem?_cons_succ, List.getElem?_nil, List.set_cons_zero, List.set_cons_succ, List.map_cons, List.map_nil, Option.map_some, Option.bind_some, Option.isSome_some, List.cons_append, List.nil_append, List.replicate_succ, List.replicate_zero, List.length_cons, List.length_nil, if_true, if_false, Bool.false_eq_true, reduceIte, ite_true, ite_false, side_eq, eqi, e00, h0', ee]
  | one h h2 =>
    subst h
    have h0' : decide (s = m) = true := decide_eq_true h2
    have ee : eqD (.tup [.tup [.int 1, .int 1], .tup [.int 1, .int 1]]) (.tup [.tup [.int 1, .int 1], .tup [.int 1, .int 1]]) = some true := rfl
    refine run_rt (Γ0 := [.sh (.int m), .sh (.int s), .sh (.tup [.int e0, .int e1]), .sh (.str (sideS false)), .sh (.int f), .sh (.tup [.tup [.int 1, .int 1], .tup [.int 1, .int 1]]), .no, .no, .no, .no, .no]) rfl rfl ?_ (Γ' := [.sh (.int m), .sh (.int s), .sh (.tup [.int e0, .int e1]), .sh (.str (sideS false)), .sh (.int f), .sh (.tup [.tup [.int 1, .int 1], .tup [.int 1, .int 1]]), .no, .no, .no, .no, .no]) rfl
    refine ss_rt ?_
    simp only [okl0, okl1, okl2, okl3, okl4, okl5, okl6, okl7, okl8, runDf, runCore, inSl, evSs, evS, evE, evP, evT, evTs, evO, evEs, evAs, evI, evX, Res.bind, liftO, Hd.get, getA, getO, Sl.get?, store, bindF, bind1, bindL, storeL, bopD, copD, truD, b1D, b2D, idxD, slcD, augD, putC, isBox, isL, isC, getAll, Ah.get, refsOf, valsOf, putBack, outs, isX, isiD, optI, List.getElem?_cons_zero, List.getElem?_cons_succ, List.getElem?_nil, List.set_cons_zero, List.set_cons_succ, List.map_cons, List.map_nil, Option.map_some, Option.bind_some, Option.isSome_some, List.cons_append, List.nil_append, List.replicate_succ, List.replicate_zero, List.length_cons, List.length_nil, if_true, if_false, Bool.false_eq_true, reduceIte, ite_true, ite_false, side_eq, side_eq2, eqi, e0', h0', ee, Bool.not_false]
  | mid l h h2 hl' h3 h4 =>
    have f0 : (0 : Int) < (f : Int) := by omega
    have sf : Sm (f : Int) := Sm.of (k := 20) (by omega) (by decide)
    have sl : Sm (l : Int) := Sm.of (k := 20) (by omega) (by decide)
    have sl1 : Sm ((l + 1 : Nat) : Int) := Sm.of (k := 20) (by omega) (by decide)
    obtain ⟨Γ1, b1, j1, t1⟩ := tail_lap (low := low) (told := .tup [Q l f, Q (l + 1 : Nat) f]) (ts := []) (s8 := .no) (s9 := .no) hk hm1 hm hs he (by omega) hl (y := (l : Int)) (by omega) (by omega) (.inl rfl) (.inl rfl) (by simp)
    obtain ⟨Γ2, b2, j2, t2⟩ := tail_lap (low := low) (told := .tup [Q l f, Q (l + 1 : Nat) f]) (ts := [.bl low]) (s8 := .sh (Q l f)) (s9 := .sh j1) hk hm1 hm hs he (by omega) hl (y := ((l + 1 : Nat) : Int)) (by omega) (by omega) (.inr ⟨_, rfl⟩) (.inr ⟨_, rfl⟩) (by simp)
    rw [ls_low he hs (by omega) h h3] at t1
    rw [ls_high he hs (by omega) h2 h4] at t2
    refine run_rt (Γ0 := [.sh (.int m), .sh (.int s), .sh (.tup [.int e0, .int e1]), .sh (.str (sideS low)), .sh (.int f), .sh (.tup [Q l f, Q (l + 1 : Nat) f]), .no, .no, .no, .no, .no]) rfl rfl ?_ (Γ' := stT m s e0 e1 low f (.tup [Q l f, Q (l + 1 : Nat) f]) [.bl low, .bl (!low)] (.sh (Q (l + 1 : Nat) f)) (.sh j2)) rfl
    -- first test
    refine (ss_nx (Γ1 := [.sh (.int m), .sh (.int s), .sh (.tup [.int e0, .int e1]), .sh (.str (sideS low)), .sh (.int f), .sh (.tup [Q l f, Q (l + 1 : Nat) f]), .no, .no, .no, .no, .no]) ?_).trans ?_
    · cases low with
      | true =>
        have h0' : decide (s = 0) = false := decide_eq_false (h rfl)
        simp only [okl0, okl1, okl2, okl3, okl4, okl5, okl6, okl7, okl8, runDf, runCore, inSl, evSs, evS, evE, evP, evT, evTs, evO, evEs, evAs, evI, evX, Res.bind, liftO, Hd.get, getA, getO, Sl.get?, store, bindF, bind1, bindL, storeL, bopD, copD, truD, b1D, b2D, idxD, slcD, augD, putC, isBox, isL, isC, getAll, Ah.get, refsOf, valsOf, putBack, outs, isX, isiD, optI, List.getElem?_cons_zero, List.getElem?_cons_succ, List.getElem?_nil, List.set_cons_zero, List.set_cons_succ, List.map_cons, List.map_nil, Option.map_some, Option.bind_some, Option.isSome_some, List.cons_append, List.nil_append, List.replicate_succ, List.replicate_zero, List.length_cons, List.length_nil, if_true, if_false, Bool.false_eq_true, reduceIte, ite_true, ite_false, side_eq, side_eq2, eqi, e00, h0', Bool.not_true]
      | false =>
        have h0' : decide (s = m) = false := decide_eq_false (h2 rfl)
        simp only [okl0, okl1, okl2, okl3, okl4, okl5, okl6, okl7, okl8, runDf, runCore, inSl, evSs, evS, evE, evP, evT, evTs, evO, evEs, evAs, evI, evX, Res.bind, liftO, Hd.get, getA, getO, Sl.get?, store, bindF, bind1, bindL, storeL, bopD, copD, truD, b1D, b2D, idxD, slcD, augD, putC, isBox, isL, isC, getAll, Ah.get, refsOf, valsOf, putBack, outs, isX, isiD, optI, List.getElem?_cons_zero, List.getElem?_cons_succ, List.getElem?_nil, List.set_cons_zero, List.set_cons_succ, List.map_cons, List.map_nil, Option.map_some, Option.bind_some, Option.isSome_some, List.cons_append, List.nil_append, List.replicate_succ, List.replicate_zero, List.length_cons, List.length_nil, if_true, if_false, Bool.false_eq_true, reduceIte, ite_true, ite_false, side_eq, side_eq2, eqi, e0', h0', Bool.not_false]
    -- exact ones
    have x1 := s_exact (n := k) (by omega) f0 sl sf
    have x2 := s_exact (n := k) (by omega) f0 sl1 sf
    have c1 := cmp_map (cf := callD Pr.dfOf k) (Γ := [.sh (.int m), .sh (.int s), .sh (.tup [.int e0, .int e1]), .sh (.str (sideS low)), .sh (.int f), .sh (.tup [Q l f, Q (l + 1 : Nat) f]), .no, .no, .no, .no, .no]) (Γ1 := [.sh (.int m), .sh (.int s), .sh (.tup [.int e0, .int e1]), .sh (.str (sideS low)), .sh (.int f), .sh (.tup [Q l f, Q (l + 1 : Nat) f]), .no, .no, .no, .no, .no]) (Γ2 := [.sh (.int m), .sh (.int s), .sh (.tup [.int e0, .int e1]), .sh (.str (sideS low)), .sh (.int f), .sh (.tup [Q l f, Q (l + 1 : Nat) f]), .no, .no, .no, .no, .no])
      (xs := [Q l f, Q (l + 1 : Nat) f]) (own := [10]) (n := 11) (g := .nm 10) (it := .seq (.var 5)) (elt := .cal 35 (.val (.var 10) (.nil))) rfl rfl (fun _ => .bl true) (by simp) rfl fun x hx => by
        simp only [List.mem_cons, List.not_mem_nil, or_false] at hx
        rcases hx with rfl | rfl
        · exact ⟨_, false, _, rfl, ev_cal1 (fr := false) rfl x1, rfl⟩
        · exact ⟨_, false, _, rfl, ev_cal1 (fr := false) rfl x2, rfl⟩
    refine (ss_nx ((s_iteF (ev_or0 (Γ1 := [.sh (.int m), .sh (.int s), .sh (.tup [.int e0, .int e1]), .sh (.str (sideS low)), .sh (.int f), .sh (.tup [Q l f, Q (l + 1 : Nat) f]), .no, .no, .no, .no, .no]) rfl (ev_or0 (Γ1 := [.sh (.int m), .sh (.int s), .sh (.tup [.int e0, .int e1]), .sh (.str (sideS low)), .sh (.int f), .sh (.tup [Q l f, Q (l + 1 : Nat) f]), .no, .no, .no, .no, .no]) rfl (ev_not (c := true) (ev_tv (ev_bl1 (r := .bl true) c1 rfl)))))).trans rfl)).trans ?_
    -- the distance
    have ls := less_Q (n := k) (by omega) f0 f0 sl1 sl sf sf
    have ql : Q (((l + 1 : Nat) : Int) * f - (l : Int) * f) ((f : Int) * f) = .tup [.int 1, .int f] := by
      rw [show ((l + 1 : Nat) : Int) * f - (l : Int) * f = f by rw [Int.natCast_add, Int.add_mul]; simp; omega]
      rw [Q_eq (x' := 1) (d' := (f : Int)) (Int.mul_pos f0 f0) f0 (by grind), Q_red f0 (by simp)]
    rw [ql] at ls
    obtain ⟨a1, a2, a3, a4, a5⟩ := nf_spec (x := (l : Int)) f0
    have md : modD (f : Int) (nfP (l : Int) f).2 = some 0 := by
      rw [modD_of a1]
      congr 1
      refine Int.emod_eq_zero_of_dvd ?_
      refine dvd_cop (p := (nfP (l : Int) f).1) (q := (nfP (l : Int) f).2) ⟨l, by rw [a2, Int.mul_comm]⟩ ?_
      exact a3
    have eqT : eqD (.tup [.int 1, .int f]) (.tup [.int 1, .int f]) = some true := by rw [eq2]; simp
    have i0 : L2.atI [Q l f, Q (l + 1 : Nat) f] 0 = some (Q l f) := rfl
    have i1 : L2.atI [Q l f, Q (l + 1 : Nat) f] 1 = some (Q (l + 1 : Nat) f) := rfl
    have iq : idxD (Q l f) (.int 1) = some (.int (nfP (l : Int) f).2) := rfl
    refine (ss_nx (Γ1 := [.sh (.int m), .sh (.int s), .sh (.tup [.int e0, .int e1]), .sh (.str (sideS low)), .sh (.int f), .sh (.tup [Q l f, Q (l + 1 : Nat) f]), .no, .no, .no, .no, .no]) ?_).trans ?_
    · have g1 : evT (callD Pr.dfOf k) (.val (.e (.cmp .ne (.e (.cal 32 (.val (.idx (.pek 5) (.e (.cst (.int 1)))) (.val (.idx (.pek 5) (.e (.cst (.int 0)))) (.nil))))) (.e (.tup (.cons (.cst (.int 1)) (.cons (.var 4) (.nil)))))))) [.sh (.int m), .sh (.int s), .sh (.tup [.int e0, .int e1]), .sh (.str (sideS low)), .sh (.int f), .sh (.tup [Q l f, Q (l + 1 : Nat) f]), .no, .no, .no, .no, .no] = .ok false [.sh (.int m), .sh (.int s), .sh (.tup [.int e0, .int e1]), .sh (.str (sideS low)), .sh (.int f), .sh (.tup [Q l f, Q (l + 1 : Nat) f]), .no, .no, .no, .no, .no] := by
        simp only [okl0, okl1, okl2, okl3, okl4, okl5, okl6, okl7, okl8, runDf, runCore, inSl, evSs, evS, evE, evP, evT, evTs, evO, evEs, evAs, evI, evX, Res.bind, liftO, Hd.get, getA, getO, Sl.get?, store, bindF, bind1, bindL, storeL, bopD, copD, truD, b1D, b2D, idxD, slcD, augD, putC, isBox, isL, isC, getAll, Ah.get, refsOf, valsOf, putBack, outs, isX, isiD, optI, List.getElem?_cons_zero, List.getElem?_cons_succ, List.getElem?_nil, List.set_cons_zero, List.set_cons_succ, List.map_cons, List.map_nil, Option.map_some, Option.bind_some, Option.isSome_some, List.cons_append, List.nil_append, List.replicate_succ, List.replicate_zero, List.length_cons, List.length_nil, if_true, if_false, Bool.false_eq_true, reduceIte, ite_true, ite_false, i0, i1, ls, eqT, Bool.not_true, List.nodup_nil]
      have g2 : evT (callD Pr.dfOf k) (.val (.e (.cmp .ne (.e (.bin .mod (.pek 4) (.e (.idx (.e (.idx (.pek 5) (.e (.cst (.int 0))))) (.e (.cst (.int 1))))))) (.e (.cst (.int 0)))))) [.sh (.int m), .sh (.int s), .sh (.tup [.int e0, .int e1]), .sh (.str (sideS low)), .sh (.int f), .sh (.tup [Q l f, Q (l + 1 : Nat) f]), .no, .no, .no, .no, .no] = .ok false [.sh (.int m), .sh (.int s), .sh (.tup [.int e0, .int e1]), .sh (.str (sideS low)), .sh (.int f), .sh (.tup [Q l f, Q (l + 1 : Nat) f]), .no, .no, .no, .no, .no] := by
        have z : eqD (.int 0) (.int 0) = some true := rfl
        simp only [okl0, okl1, okl2, okl3, okl4, okl5, okl6, okl7, okl8, runDf, runCore, inSl, evSs, evS, evE, evP, evT, evTs, evO, evEs, evAs, evI, evX, Res.bind, liftO, Hd.get, getA, getO, Sl.get?, store, bindF, bind1, bindL, storeL, bopD, copD, truD, b1D, b2D, idxD, slcD, augD, putC, isBox, isL, isC, getAll, Ah.get, refsOf, valsOf, putBack, outs, isX, isiD, optI, List.getElem?_cons_zero, List.getElem?_cons_succ, List.getElem?_nil, List.set_cons_zero, List.set_cons_succ, List.map_cons, List.map_nil, Option.map_some, Option.bind_some, Option.isSome_some, List.cons_append, List.nil_append, List.replicate_succ, List.replicate_zero, List.length_cons, List.length_nil, if_true, if_false, Bool.false_eq_true, reduceIte, ite_true, ite_false, atI0, atI1, Q, md, z, Bool.not_true]
      exact (s_iteF (ev_or0 g1 g2)).trans rfl
    -- half, tails
    have hf' := s_half (n := k) (by omega) he
    refine (ss_nx (Γ1 := [.sh (.int m), .sh (.int s), .sh (.tup [.int e0, .int e1]), .sh (.str (sideS low)), .sh (.int f), .sh (.tup [Q l f, Q (l + 1 : Nat) f]), .sh (Q (e0 * 1) (e1 * 2)), .no, .no, .no, .no]) (by simp only [okl0, okl1, okl2, okl3, okl4, okl5, okl6, okl7, okl8, runDf, runCore, inSl, evSs, evS, evE, evP, evT, evTs, evO, evEs, evAs, evI, evX, Res.bind, liftO, Hd.get, getA, getO, Sl.get?, store, bindF, bind1, bindL, storeL, bopD, copD, truD, b1D, b2D, idxD, slcD, augD, putC, isBox, isL, isC, getAll, Ah.get, refsOf, valsOf, putBack, outs, isX, isiD, optI, List.getElem?_cons_zero, List.getElem?_cons_succ, List.getElem?_nil, List.set_cons_zero, List.set_cons_succ, List.map_cons, List.map_nil, Option.map_some, Option.bind_some, Option.isSome_some, List.cons_append, List.nil_append, List.replicate_succ, List.replicate_zero, List.length_cons, List.length_nil, if_true, if_false, Bool.false_eq_true, reduceIte, ite_true, ite_false, hf', List.nodup_nil])).trans ?_
    refine (ss_nx (Γ1 := stT m s e0 e1 low f (.tup [Q l f, Q (l + 1 : Nat) f]) [] .no .no) rfl).trans ?_
    refine (ss_nx (e_for (ev_seqT (fr := false) rfl) (Γ' := stT m s e0 e1 low f (.tup [Q l f, Q (l + 1 : Nat) f]) [.bl low, .bl (!low)] (.sh (Q (l + 1 : Nat) f)) (.sh j2)) ?_)).trans ?_
    · unfold forL
      rw [b1]
      dsimp only
      rw [t1]
      dsimp only
      unfold forL
      rw [List.nil_append, b2]
      dsimp only
      rw [t2]
      rfl
    · have te := tails_eq low
      cases low with
      | true =>
        rw [if_pos rfl] at te
        simp only [stT, okl0, okl1, okl2, okl3, okl4, okl5, okl6, okl7, okl8, runDf, runCore, inSl, evSs, evS, evE, evP, evT, evTs, evO, evEs, evAs, evI, evX, Res.bind, liftO, Hd.get, getA, getO, Sl.get?, store, bindF, bind1, bindL, storeL, bopD, copD, truD, b1D, b2D, idxD, slcD, augD, putC, isBox, isL, isC, getAll, Ah.get, refsOf, valsOf, putBack, outs, isX, isiD, optI, List.getElem?_cons_zero, List.getElem?_cons_succ, List.getElem?_nil, List.set_cons_zero, List.set_cons_succ, List.map_cons, List.map_nil, Option.map_some, Option.bind_some, Option.isSome_some, List.cons_append, List.nil_append, List.replicate_succ, List.replicate_zero, List.length_cons, List.length_nil, if_true, if_false, Bool.false_eq_true, reduceIte, ite_true, ite_false, side_eq, te]
      | false =>
        rw [if_neg Bool.false_ne_true] at te
        simp only [stT, okl0, okl1, okl2, okl3, okl4, okl5, okl6, okl7, okl8, runDf, runCore, inSl, evSs, evS, evE, evP, evT, evTs, evO, evEs, evAs, evI, evX, Res.bind, liftO, Hd.get, getA, getO, Sl.get?, store, bindF, bind1, bindL, storeL, bopD, copD, truD, b1D, b2D, idxD, slcD, augD, putC, isBox, isL, isC, getAll, Ah.get, refsOf, valsOf, putBack, outs, isX, isiD, optI, List.getElem?_cons_zero, List.getElem?_cons_succ, List.getElem?_nil, List.set_cons_zero, List.set_cons_succ, List.map_cons, List.map_nil, Option.map_some, Option.bind_some, Option.isSome_some, List.cons_append, List.nil_append, List.replicate_succ, List.replicate_zero, List.length_cons, List.length_nil, if_true, if_false, Bool.false_eq_true, reduceIte, ite_true, ite_false, side_eq, te]
end
end Dn.K69
end

section
set_option linter.all false
set_option autoImplicit false
set_option maxRecDepth 100000
set_option Elab.async false
set_option exponentiation.threshold 500000
/-! M69K: draws. -/
namespace Dn.K69
open PySem PySem.Spec PyProof.Rows L2 Dn
/-- a pot from which at most k were mixed -/
def Pot (k : Nat) (p : D) : Prop := ∃ a b c : Int, p = .lst [.int a, .int b, .int c] ∧ 0 ≤ a ∧ 0 ≤ b ∧ b < 2 ^ 62 ∧ 0 ≤ c ∧ c ≤ k
theorem Pot.mono {k k' : Nat} {p : D} (h : Pot k p) (hk : k ≤ k') : Pot k' p := by
  obtain ⟨a, b, c, h1, h2, h3, h4, h5, h6⟩ := h
  exact ⟨a, b, c, h1, h2, h3, h4, h5, by omega⟩
theorem d30 {u : Int} (h0 : 0 < u) (h : u ≤ 1000000) : u.natAbs < 2 ^ 8000 := Nat.lt_of_lt_of_le (show u.natAbs < 2 ^ 20 by omega) (Nat.pow_le_pow_right (by decide) (by decide))
theorem prime_at (c : Int) : ∃ P : Int, 0 < P ∧ P < 2 ^ 31 ∧ L2.atI [D.int 2147483647, D.int 2147483629, D.int 2147483587, D.int 2147483579, D.int 2147483563] (c % 5) = some (.int P) := by
  have h1 := Int.emod_nonneg c (show (5 : Int) ≠ 0 by decide)
  have h2 := Int.emod_lt_of_pos c (show (0 : Int) < 5 by decide)
  have h : c % 5 = 0 ∨ c % 5 = 1 ∨ c % 5 = 2 ∨ c % 5 = 3 ∨ c % 5 = 4 := by omega
  rcases h with h | h | h | h | h <;> rw [h]
  · exact ⟨2147483647, by decide, by decide, rfl⟩
  · exact ⟨2147483629, by decide, by decide, rfl⟩
  · exact ⟨2147483587, by decide, by decide, rfl⟩
  · exact ⟨2147483579, by decide, by decide, rfl⟩
  · exact ⟨2147483563, by decide, by decide, rfl⟩
theorem at3a {x y z : D} : L2.atI [x, y, z] 0 = some x := rfl
theorem at3b {x y z : D} : L2.atI [x, y, z] 1 = some y := rfl
theorem at3c {x y z : D} : L2.atI [x, y, z] 2 = some z := rfl
theorem ix3a : L2.ixN (0 + 1 + 1 + 1) 0 = some 0 := rfl
theorem ix3c : L2.ixN (0 + 1 + 1 + 1) 2 = some 2 := rfl
theorem powD3 {i : Int} (h : i.natAbs < 2 ^ 200) : powD i 3 = some (i ^ 3) := by
  unfold powD
  have := log2_lt h (by decide)
  rw [if_pos ⟨by decide, by show (i.natAbs.log2 + 1) * 3 ≤ _; omega⟩]
  rfl
theorem s_take {n k : Nat} {p : D} {u : Int} (hn : 1 ≤ n) (hp : Pot k p) (hk : k ≤ 1000000) (hu : 0 < u) (hu2 : u ≤ 1000000) :
    ∃ (r : Int) (p' : D), callD Pr.dfOf n 24 [p, .int u] = some (.ok (.int r) false [p']) ∧ 0 ≤ r ∧ r < u ∧ Pot (k + 1) p' := by
  obtain ⟨a, b, c, rfl, h1, h2, h3, h4, h5⟩ := hp
  obtain ⟨n, rfl, hn'⟩ := up hn
  rw [callD_def (d := d__law_take) rfl]
  have mu := fun x : Int => modD_of (i := x) hu
  have du := fun x : Int => divD_of (i := x) hu (d30 hu hu2)
  by_cases ha : 0 < a
  · refine ⟨a % u, .lst [.int (a / u), .int b, .int c], ?_, Int.emod_nonneg _ (by omega), Int.emod_lt_of_pos _ hu, a / u, b, c, rfl, Int.ediv_nonneg h1 (by omega), h2, h3, h4, by omega⟩
    have ha' : decide (0 < a) = true := decide_eq_true ha
    simp only [d__law_take, df__law_take, okl0, okl1, okl2, okl3, okl4, okl5, okl6, okl7, okl8, runDf, runCore, inSl, evSs, evS, evE, evP, evT, evTs, evO, evEs, evAs, evI, evX, Res.bind, liftO, Hd.get, getA, getO, Sl.get?, store, bindF, bind1, bindL, storeL, bopD, copD, truD, b1D, b2D, idxD, slcD, augD, putC, isBox, isL, isC, getAll, Ah.get, refsOf, valsOf, putBack, outs, isX, isiD, optI, List.getElem?_cons_zero, List.getElem?_cons_succ, List.getElem?_nil, List.set_cons_zero, List.set_cons_succ, List.map_cons, List.map_nil, Option.map_some, Option.bind_some, Option.isSome_some, List.cons_append, List.nil_append, List.replicate_succ, List.replicate_zero, List.length_cons, List.length_nil, if_true, if_false, Bool.false_eq_true, reduceIte, ite_true, ite_false, at3a, ha', mu, du, setD, ix3a]
  · have ha' : decide (0 < a) = false := decide_eq_false ha
    obtain ⟨P, p0, p1, pe⟩ := prime_at (c + 1)
    have m5 := modD_of (i := c + 1) (j := 5) (by decide)
    have cb : (c + 1).natAbs < 2 ^ 21 := by omega
    have f1 : fitMul 90007 (c + 1) = true := Sm.fit (Sm.of (k := 17) (by decide) (by decide)) (Sm.of (k := 21) cb (by decide))
    have e1 : (90007 * (c + 1)).natAbs < 2 ^ 40 := by omega
    have f2 : fitMul (90007 * (c + 1)) (c + 1) = true := Sm.fit (Sm.of (k := 40) e1 (by decide)) (Sm.of (k := 21) cb (by decide))
    have e2 : (90007 * (c + 1) * (c + 1)).natAbs < 2 ^ 61 := by
      rw [Int.natAbs_mul]
      exact Nat.lt_of_lt_of_le (Nat.mul_lt_mul'' e1 cb) (by decide)
    have e3 : (b + 90007 * (c + 1) * (c + 1) + 3011).natAbs < 2 ^ 200 := Nat.lt_of_lt_of_le (show (b + 90007 * (c + 1) * (c + 1) + 3011).natAbs < 2 ^ 70 by omega) (by decide)
    have pw := powD3 e3
    have mP := fun x : Int => modD_of (i := x) p0
    generalize hX : (b + 90007 * (c + 1) * (c + 1) + 3011) ^ 3 = X at *
    have xb1 := Int.emod_nonneg X (show P ≠ 0 by omega)
    have xb2 := Int.emod_lt_of_pos X p0
    have mm := modD_of (i := X % P) (j := 13729) (by decide)
    have yb1 := Int.emod_nonneg (X % P) (show (13729 : Int) ≠ 0 by decide)
    have yb2 := Int.emod_lt_of_pos (X % P) (show (0 : Int) < 13729 by decide)
    have f3 : fitMul 433 (c + 1) = true := Sm.fit (Sm.of (k := 17) (by decide) (by decide)) (Sm.of (k := 21) cb (by decide))
    have f4 : fitMul (X % P) (X % P % 13729 + 433 * (c + 1)) = true := Sm.fit (Sm.of (k := 31) (by omega) (by decide)) (Sm.of (k := 40) (by omega) (by decide))
    have m2 := modD_of (i := X % P * (X % P % 13729 + 433 * (c + 1))) (j := 2305843009213693907) (by decide)
    generalize hY : X % P * (X % P % 13729 + 433 * (c + 1)) % 2305843009213693907 = Y at *
    have d239 := divD_of (i := Y) (j := 239) (by decide) (d30 (by decide) (by decide))
    refine ⟨Y / 239 % u, .lst [.int a, .int b, .int (c + 1)], ?_, Int.emod_nonneg _ (by omega), Int.emod_lt_of_pos _ hu, a, b, c + 1, rfl, h1, h2, h3, by omega, by omega⟩
    simp only [d__law_take, df__law_take, okl0, okl1, okl2, okl3, okl4, okl5, okl6, okl7, okl8, runDf, runCore, inSl, evSs, evS, evE, evP, evT, evTs, evO, evEs, evAs, evI, evX, Res.bind, liftO, Hd.get, getA, getO, Sl.get?, store, bindF, bind1, bindL, storeL, bopD, copD, truD, b1D, b2D, idxD, slcD, augD, putC, isBox, isL, isC, getAll, Ah.get, refsOf, valsOf, putBack, outs, isX, isiD, optI, List.getElem?_cons_zero, List.getElem?_cons_succ, List.getElem?_nil, List.set_cons_zero, List.set_cons_succ, List.map_cons, List.map_nil, Option.map_some, Option.bind_some, Option.isSome_some, List.cons_append, List.nil_append, List.replicate_succ, List.replicate_zero, List.length_cons, List.length_nil, if_true, if_false, Bool.false_eq_true, reduceIte, ite_true, ite_false, at3a, at3b, at3c, ha', setD, ix3c, m5, pe, f1, f2, pw, mP, mm, f3, f4, m2, d239, mu]
theorem s_of {n k : Nat} {p : D} {xs : List D} (hn : 2 ≤ n) (hp : Pot k p) (hk : k ≤ 1000000) (h0 : xs ≠ []) (hl : xs.length ≤ 100) :
    ∃ (d : D) (p' : D), d ∈ xs ∧ callD Pr.dfOf n 25 [p, .lst xs] = some (.ok d false [p']) ∧ Pot (k + 1) p' := by
  obtain ⟨n, rfl, hn'⟩ := up hn
  have hx : 0 < xs.length := List.length_pos_iff.mpr h0
  obtain ⟨r, p', e, r0, r1, hp'⟩ := s_take (n := n) hn' hp hk (u := (xs.length : Int)) (by omega) (by omega)
  obtain ⟨i, rfl⟩ : ∃ i : Nat, r = i := ⟨r.toNat, by omega⟩
  have hi : i < xs.length := by omega
  refine ⟨xs[i], p', List.getElem_mem hi, ?_, hp'⟩
  rw [callD_def (d := d__law_of) rfl]
  have g : L2.atI xs (i : Int) = some xs[i] := by rw [atI_nat hi, List.getElem?_eq_getElem hi]
  simp only [d__law_of, df__law_of, okl0, okl1, okl2, okl3, okl4, okl5, okl6, okl7, okl8, runDf, runCore, inSl, evSs, evS, evE, evP, evT, evTs, evO, evEs, evAs, evI, evX, Res.bind, liftO, Hd.get, getA, getO, Sl.get?, store, bindF, bind1, bindL, storeL, bopD, copD, truD, b1D, b2D, idxD, slcD, augD, putC, isBox, isL, isC, getAll, Ah.get, refsOf, valsOf, putBack, outs, isX, isiD, optI, List.getElem?_cons_zero, List.getElem?_cons_succ, List.getElem?_nil, List.set_cons_zero, List.set_cons_succ, List.map_cons, List.map_nil, Option.map_some, Option.bind_some, Option.isSome_some, List.cons_append, List.nil_append, List.replicate_succ, List.replicate_zero, List.length_cons, List.length_nil, if_true, if_false, Bool.false_eq_true, reduceIte, ite_true, ite_false, e, g, List.nodup_cons, List.not_mem_nil, not_false_eq_true, List.nodup_nil, and_self]
/-- a drawn chance -/
theorem s_chance {n k : Nat} {p : D} (hn : 2 ≤ n) (hp : Pot k p) (hk : k + 1 ≤ 1000000) : ∃ (t b : Int) (p' : D), callD Pr.dfOf n 40 [p] = some (.ok (.tup [.int t, .int b]) false [p']) ∧ Ch t b ∧ b ≤ 12 ∧ Pot (k + 2) p' := by
  obtain ⟨n, rfl, hn'⟩ := up hn
  obtain ⟨r, p1, e1, r0, r1, hp1⟩ := s_take (n := n) hn' hp (by omega) (u := 12) (by decide) (by decide)
  obtain ⟨r', p2, e2, q0, q1, hp2⟩ := s_take (n := n) hn' hp1 (by omega) (u := 1 + r + 1) (by omega) (by omega)
  have b0 : 0 < 1 + r := by omega
  have f := s_lfrac (n := n) hn' (a := r') (b := 1 + r) b0 (d30 b0 (by omega)) (Nat.lt_of_lt_of_le (show r'.natAbs < 2 ^ 20 by omega) (Nat.pow_le_pow_right (by decide) (by decide)))
  obtain ⟨a1, a2, a3, a4, a5⟩ := nf_spec (x := r') b0
  have ok := nf_ok (m := 0) (y := r') (f := 1 + r) (by decide) q0 (by omega) b0 (by omega)
  refine ⟨(nfP r' (1 + r)).1, (nfP r' (1 + r)).2, p2, ?_, ⟨ok.t0, ok.tb, ok.b0, by omega, a3⟩, by omega, hp2⟩
  rw [callD_def (d := d__law_chance_drawn) rfl]
  simp only [d__law_chance_drawn, df__law_chance_drawn, okl0, okl1, okl2, okl3, okl4, okl5, okl6, okl7, okl8, runDf, runCore, inSl, evSs, evS, evE, evP, evT, evTs, evO, evEs, evAs, evI, evX, Res.bind, liftO, Hd.get, getA, getO, Sl.get?, store, bindF, bind1, bindL, storeL, bopD, copD, truD, b1D, b2D, idxD, slcD, augD, putC, isBox, isL, isC, getAll, Ah.get, refsOf, valsOf, putBack, outs, isX, isiD, optI, List.getElem?_cons_zero, List.getElem?_cons_succ, List.getElem?_nil, List.set_cons_zero, List.set_cons_succ, List.map_cons, List.map_nil, Option.map_some, Option.bind_some, Option.isSome_some, List.cons_append, List.nil_append, List.replicate_succ, List.replicate_zero, List.length_cons, List.length_nil, if_true, if_false, Bool.false_eq_true, reduceIte, ite_true, ite_false, e1, e2, f, List.nodup_cons, List.not_mem_nil, not_false_eq_true, List.nodup_nil, and_self]
  rfl
end Dn.K69
end

section
set_option linter.all false
set_option autoImplicit false
set_option maxRecDepth 100000
set_option Elab.async false
set_option exponentiation.threshold 500000
/-! M69L: what is left out is no more than the error; one drawn case is right. -/
namespace Dn.K69
open PySem PySem.Spec PyProof.Rows L2 Dn
/-! ### the sum of what is left out -/
theorem sm_add (f g : Nat → Int) : ∀ n, sm (fun i => f i + g i) n = sm f n + sm g n
  | 0 => rfl
  | n + 1 => by
    show sm (fun i => f i + g i) n + (f n + g n) = (sm f n + f n) + (sm g n + g n)
    rw [sm_add f g n]
    omega
theorem sm_le2 {f g : Nat → Int} (h : ∀ i, f i ≤ g i) : ∀ n, sm f n ≤ sm g n
  | 0 => by show (0 : Int) ≤ 0; omega
  | n + 1 => Int.add_le_add (sm_le2 h n) (h n)
theorem fil_sum (p : Nat → Bool) (f : Nat → Int) : ∀ n, ((List.range n).filterMap fun i => if p i then none else some (f i)).sum = sm (fun i => if p i then 0 else f i) n
  | 0 => rfl
  | n + 1 => by
    rw [List.range_succ, List.filterMap_append, List.sum_append, fil_sum p f n]
    show _ = sm (fun i => if p i then 0 else f i) n + (if p n then 0 else f n)
    cases h : p n <;> simp [h]
section
variable {t b : Int} {m : Nat} {w e0 e1 : Int}
theorem out_le (h : Ok m t b) (he : Er e0 e1) : (outL t (b - t) m (b ^ m) e0 e1).sum * e1 ≤ e0 * b ^ m := by
  have n := bn_nonneg h.t0 (show 0 ≤ b - t by have := h.tb; omega) m
  have t1 := he.t1
  have b1 := he.b1
  have w0 : 0 < e0 * b ^ m := Int.mul_pos t1 (powB h).1
  let A : Nat → Bool := fun s => decide (hi t (b - t) m s * 2 * e1 < e0 * b ^ m)
  let B : Nat → Bool := fun s => decide (lo t (b - t) m s * 2 * e1 < e0 * b ^ m)
  let fA : Nat → Int := fun s => if A s then bn t (b - t) m s else 0
  let fB : Nat → Int := fun s => if B s then bn t (b - t) m s else 0
  have pA : ∀ s, 0 ≤ fA s ∧ fA s ≤ bn t (b - t) m s := fun s => by
    show 0 ≤ (if A s then bn t (b - t) m s else 0) ∧ (if A s then bn t (b - t) m s else 0) ≤ _
    have := n s
    split <;> omega
  have pB : ∀ s, 0 ≤ fB s ∧ fB s ≤ bn t (b - t) m s := fun s => by
    show 0 ≤ (if B s then bn t (b - t) m s else 0) ∧ (if B s then bn t (b - t) m s else 0) ≤ _
    have := n s
    split <;> omega
  have hB : ∀ N, sm fB N * 2 * e1 ≤ e0 * b ^ m := by
    intro N
    induction N with
    | zero => show (0 : Int) * 2 * e1 ≤ _; simp; omega
    | succ N ih =>
      by_cases hb : B N = true
      · have h1 : sm fB (N + 1) ≤ lo t (b - t) m N := sm_le2 (fun i => (pB i).2) (N + 1)
        have h2 : lo t (b - t) m N * 2 * e1 < e0 * b ^ m := of_decide_eq_true hb
        have h3 : sm fB (N + 1) * 2 * e1 ≤ lo t (b - t) m N * 2 * e1 := Int.mul_le_mul_of_nonneg_right (by omega) (by omega)
        omega
      · have : fB N = 0 := if_neg hb
        show (sm fB N + fB N) * 2 * e1 ≤ _
        rw [this, Int.add_zero]
        exact ih
  have dif : ∀ N, N ≤ m + 1 → sm fA (m + 1) - sm fA N ≤ sm (bn t (b - t) m) (m + 1) - sm (bn t (b - t) m) N := by
    intro N hN
    obtain ⟨d, hd⟩ : ∃ d, m + 1 = N + d := ⟨m + 1 - N, by omega⟩
    rw [hd]
    clear hd
    induction d with
    | zero => simp
    | succ d ih =>
      show sm fA (N + d) + fA (N + d) - sm fA N ≤ sm (bn t (b - t) m) (N + d) + bn t (b - t) m (N + d) - sm (bn t (b - t) m) N
      have := (pA (N + d)).2
      omega
  have hA : ∀ d N, N + d = m + 1 → (sm fA (m + 1) - sm fA N) * 2 * e1 ≤ e0 * b ^ m := by
    intro d
    induction d with
    | zero =>
      intro N hN
      rw [show N = m + 1 by omega, Int.sub_self]
      simp
      omega
    | succ d ih =>
      intro N hN
      by_cases hb : A N = true
      · have h1 : sm fA (m + 1) - sm fA N ≤ hi t (b - t) m N := dif N (by omega)
        have h2 : hi t (b - t) m N * 2 * e1 < e0 * b ^ m := of_decide_eq_true hb
        have h3 : (sm fA (m + 1) - sm fA N) * 2 * e1 ≤ hi t (b - t) m N * 2 * e1 := Int.mul_le_mul_of_nonneg_right (by omega) (by omega)
        omega
      · have e : fA N = 0 := if_neg hb
        have := ih (N + 1) (by omega)
        have e2 : sm fA (N + 1) = sm fA N := by show sm fA N + fA N = _; omega
        rw [e2] at this
        exact this
  have key : (outL t (b - t) m (b ^ m) e0 e1).sum ≤ sm fA (m + 1) + sm fB (m + 1) := by
    unfold outL
    rw [fil_sum, ← sm_add]
    refine sm_le2 (fun s => ?_) _
    have a := pA s
    have c := pB s
    have ns := n s
    by_cases hs : inS t (b - t) m s (b ^ m) e0 e1 = true
    · rw [if_pos hs]; omega
    · rw [if_neg hs]
      unfold inS at hs
      by_cases ha : e0 * b ^ m ≤ hi t (b - t) m s * 2 * e1
      · by_cases hb : e0 * b ^ m ≤ lo t (b - t) m s * 2 * e1
        · exact absurd (by rw [decide_eq_true ha, decide_eq_true hb]; rfl) hs
        · have : fB s = bn t (b - t) m s := if_pos (decide_eq_true (by omega))
          omega
      · have : fA s = bn t (b - t) m s := if_pos (decide_eq_true (by omega))
        omega
  have a := hA (m + 1) 0 (by omega)
  have c := hB (m + 1)
  have z : sm fA 0 = 0 := rfl
  rw [z, Int.sub_zero] at a
  have k2 := Int.mul_le_mul_of_nonneg_right key (show 0 ≤ e1 by omega)
  rw [Int.add_mul] at k2
  have q1 : sm fA (m + 1) * 2 * e1 = 2 * (sm fA (m + 1) * e1) := by grind
  have q2 : sm fB (m + 1) * 2 * e1 = 2 * (sm fB (m + 1) * e1) := by grind
  omega
theorem out_b (h : Ok m t b) : 0 ≤ (outL t (b - t) m (b ^ m) e0 e1).sum ∧ (outL t (b - t) m (b ^ m) e0 e1).sum ≤ b ^ m := by
  have n := bn_nonneg h.t0 (show 0 ≤ b - t by have := h.tb; omega) m
  unfold outL
  rw [fil_sum]
  refine ⟨sm_nonneg (fun i => ?_) _, ?_⟩
  · have := n i; split <;> omega
  · rw [← tot h]
    exact sm_le2 (fun i => by have := n i; split <;> omega) _
theorem repr_Q {x d : Int} (h0 : 0 ≤ x) (h1 : x ≤ d) (hd : 0 < d) (hl : d < 1000000000000) : ∃ z, b1D .repr (Q x d) = some (.str z) := by
  obtain ⟨a1, a2, a3, a4, a5⟩ := nf_spec (x := x) hd
  exact repr_pair (by omega) (by omega)
theorem in_ints {i : Int} (l : List Int) : inD (.int i) (l.map .int) = some (decide (i ∈ l)) := by
  have tp : ∀ l : List Int, toPs (l.map .int) = some (l.map .int) := by
    intro l
    induction l with
    | nil => rfl
    | cons x l ih => rw [List.map_cons]; unfold toPs; rw [ih]; rfl
  have pl : ∀ l : List Int, PyData.plainAll (l.map .int) = true := by
    intro l
    induction l with
    | nil => rfl
    | cons x l ih => rw [List.map_cons]; unfold PyData.plainAll; rw [ih]; rfl
  unfold inD
  rw [tp]
  show (if (true && PyData.plainAll (l.map .int) && Nat.ble 0 60) = true then some ((l.map PyData.int).any fun y => PyData.eqv y (.int i)) else none) = _
  rw [pl]
  show some ((l.map PyData.int).any fun y => PyData.eqv y (.int i)) = _
  congr 1
  rw [List.any_map]
  have : ((fun y => PyData.eqv y (.int i)) ∘ PyData.int) = fun y => decide (y = i) := by
    funext y
    show PyData.eqv (.int y) (.int i) = _
    rfl
  rw [this]
  induction l with
  | nil => rfl
  | cons x l ih =>
    rw [List.any_cons, ih]
    by_cases h : x = i
    · simp [h]
    · have : ¬ i = x := fun z => h z.symm
      simp [h, this]
def fitsI (t u : Int) (m : Nat) (w e0 e1 : Int) : List Int := (List.range (m + 1)).filterMap fun s => if inS t u m s w e0 e1 then some (s : Int) else none
theorem fits_map (t u : Int) (m : Nat) (w e0 e1 : Int) : fitsL t u m w e0 e1 = (fitsI t u m w e0 e1).map .int := by
  unfold fitsL fitsI
  rw [List.map_filterMap]
  congr 1
  funext s
  cases inS t u m s w e0 e1 <;> rfl
theorem mem_fits {i : Nat} (hi : i ≤ m) : decide ((i : Int) ∈ fitsI t (b - t) m w e0 e1) = inS t (b - t) m i w e0 e1 := by
  have : ((i : Int) ∈ fitsI t (b - t) m w e0 e1) ↔ inS t (b - t) m i w e0 e1 = true := by
    unfold fitsI
    rw [List.mem_filterMap]
    constructor
    · rintro ⟨j, _, e⟩
      split at e
      · rename_i hj
        cases e
        exact hj
      · cases e
    · intro h
      exact ⟨i, List.mem_range.mpr (by omega), by rw [if_pos h]⟩
  cases e : inS t (b - t) m i w e0 e1 with
  | true => rw [e] at this; exact decide_eq_true (this.mpr rfl)
  | false => rw [e] at this; exact decide_eq_false (fun z => by cases this.mp z)
end
end Dn.K69
end

section
set_option linter.all false
set_option autoImplicit false
set_option maxRecDepth 100000
set_option Elab.async false
set_option exponentiation.threshold 500000
/-! M69M: one drawn case is right. -/
namespace Dn.K69
open PySem PySem.Spec PyProof.Rows L2 Dn
abbrev stO (p : D) (m s : Nat) (e0 e1 t b : Int) (r : List Sl) : Env := .bo p :: .sh (.int m) :: .sh (.int s) :: .sh (.tup [.int e0, .int e1]) :: .sh (.tup [.int t, .int b]) :: r
theorem repr_fits {t b : Int} {m : Nat} {w e0 e1 : Int} (hm : m ≤ 60) : ∃ z, b1D .repr (.tup (fitsL t (b - t) m w e0 e1)) = some (.str z) := by
  rw [fits_map]
  have hx : ∀ x ∈ fitsI t (b - t) m w e0 e1, 0 ≤ x ∧ x ≤ 60 := fun x hx => by
    unfold fitsI at hx
    obtain ⟨j, hj, e⟩ := List.mem_filterMap.mp hx
    have hj := List.mem_range.mp hj
    split at e
    · cases e; omega
    · cases e
  have hl : (fitsI t (b - t) m w e0 e1).length ≤ 61 := by
    unfold fitsI
    refine Nat.le_trans (List.length_filterMap_le ..) ?_
    rw [List.length_range]
    omega
  generalize fitsI t (b - t) m w e0 e1 = l at *
  have tp : ∀ l : List Int, toPs (l.map .int) = some (l.map .int) := by
    intro l
    induction l with
    | nil => rfl
    | cons x l ih => rw [List.map_cons]; unfold toPs; rw [ih]; rfl
  have all : ∀ l : List Int, (∀ x ∈ l, 0 ≤ x ∧ x ≤ 60) → PyData.hasDictAll (l.map .int) = false ∧ PyData.showableAll (l.map .int) = true ∧ PyData.depthAll (l.map .int) ≤ 1 ∧ PyData.leavesShortAll 13 (l.map .int) = true ∧ PyData.weightAll (l.map .int) ≤ 100 * l.length := by
    intro l
    induction l with
    | nil => intro _; exact ⟨rfl, rfl, by decide, rfl, by decide⟩
    | cons x l ih =>
      intro h
      obtain ⟨i1, i2, i3, i4, i5⟩ := ih fun y hy => h y (List.mem_cons_of_mem _ hy)
      have hx := h x List.mem_cons_self
      have lt : x.natAbs < 10 ^ 12 := by omega
      have s1 := PyData.shown_int_le lt
      have l1 := log_lt lt
      rw [List.map_cons]
      refine ⟨?_, ?_, ?_, ?_, ?_⟩
      · unfold PyData.hasDictAll; rw [i1]; rfl
      · unfold PyData.showableAll; rw [i2]
        simp [PyData.showable]; omega
      · unfold PyData.depthAll
        simp only [PyData.depth]
        omega
      · unfold PyData.leavesShortAll; rw [i4]
        simp [PyData.leavesShort]; omega
      · unfold PyData.weightAll
        rw [List.length_cons]
        have : PyData.weight (.int x) ≤ 41 := by
          unfold PyData.weight
          split <;> omega
        omega
  obtain ⟨a1, a2, a3, a4, a5⟩ := all l hx
  have a3' : PyData.depth (.tuple (l.map .int)) ≤ 2 := by
    unfold PyData.depth
    omega
  refine ⟨_, repr_ok (p := .tuple (l.map .int)) (by unfold toP; rw [tp]; rfl) a1 a2 (Nat.ble_eq_true_of_le (by omega)) a4 (by show PyData.weightAll _ ≤ _; omega)⟩
theorem s_is_bool {n : Nat} (hn : 1 ≤ n) {x : Bool} : callD Pr.dfOf n 28 [.bl x, .bl x] = some (.ok (.bl true) false []) := by
  obtain ⟨k, rfl, hk⟩ := up hn
  rw [callD_def (d := d__law_is_bool) rfl]
  have e : eqD (.bl x) (.bl x) = some true := by cases x <;> rfl
  simp only [d__law_is_bool, df__law_is_bool, okl0, okl1, okl2, okl3, okl4, okl5, okl6, okl7, okl8, runDf, runCore, inSl, evSs, evS, evE, evP, evT, evTs, evO, evEs, evAs, evI, evX, Res.bind, liftO, Hd.get, getA, getO, Sl.get?, store, bindF, bind1, bindL, storeL, bopD, copD, truD, b1D, b2D, idxD, slcD, augD, putC, isBox, isL, isC, getAll, Ah.get, refsOf, valsOf, putBack, outs, isX, isiD, optI, List.getElem?_cons_zero, List.getElem?_cons_succ, List.getElem?_nil, List.set_cons_zero, List.set_cons_succ, List.map_cons, List.map_nil, Option.map_some, Option.bind_some, Option.isSome_some, List.cons_append, List.nil_append, List.replicate_succ, List.replicate_zero, List.length_cons, List.length_nil, if_true, if_false, Bool.false_eq_true, reduceIte, ite_true, ite_false, e]
end Dn.K69
end

section
set_option linter.all false
set_option autoImplicit false
set_option maxRecDepth 100000
set_option Elab.async false
set_option exponentiation.threshold 500000
/-! M69N: one drawn case is right, whole. -/
namespace Dn.K69
open PySem PySem.Spec PyProof.Rows L2 Dn
theorem pow12 {b : Int} {m : Nat} (h0 : 0 < b) (h : b ≤ 12) (hm : m ≤ 9) : b ^ m < 1000000000000 := by
  have e : (b ^ m).natAbs ≤ 12 ^ 9 := by
    rw [Int.natAbs_pow]
    exact Nat.le_trans (Nat.pow_le_pow_left (show b.natAbs ≤ 12 by omega) m) (Nat.pow_le_pow_right (by decide) hm)
  have : (12 : Nat) ^ 9 = 5159780352 := by decide
  omega
theorem side_at (low : Bool) : (if low then "low" else "high" : Str) = sideS low := rfl
section
variable {n k m s : Nat} {p : D} {e0 e1 t b : Int}
theorem side_step {kk : Nat} {r5 s8 : Sl} {p' : D} {f : Nat} {low : Bool} {rest : List Sl} (hk : 7 ≤ kk) (hm1 : 1 ≤ m) (hm : m ≤ 60) (hs : s ≤ m) (he : Er e0 e1) (hf : 1 ≤ f) (hl : f ≤ 1000000) (h8 : Fs s8) {s7 : Sl} (h7 : Fs s7) :
    ∃ Γ' d, bind1 (stO p' m s e0 e1 t b (r5 :: .sh (.int f) :: s7 :: s8 :: rest)) (.nm 7) (.str (sideS low)) = some Γ' ∧ evSs (callD Pr.dfOf kk) (.cons (.xasg 8 (.cal 20 (.val (.var 1) (.val (.var 2) (.val (.var 3) (.val (.var 7) (.val (.var 6) (.nil)))))))) (.cons (.ite (.not_ (.val (.e (.cal 43 (.val (.var 1) (.val (.var 2) (.val (.var 3) (.val (.var 7) (.val (.var 6) (.val (.var 8) (.nil))))))))))) (.cons (.ret (.cst (.bl false))) (.nil)) (.nil)) (.nil))) Γ' = .nx (stO p' m s e0 e1 t b (r5 :: .sh (.int f) :: .sh (.str (sideS low)) :: .sh d :: rest)) := by
  obtain ⟨d, h1, h2⟩ := s_end (n := kk) (low := low) hk hm1 hm hs he hf hl
  have h3 := s_end_right (n := kk) (by omega) hm1 hm hs he hf hl h2
  refine ⟨stO p' m s e0 e1 t b (r5 :: .sh (.int f) :: .sh (.str (sideS low)) :: s8 :: rest), d, by rcases h7 with rfl | ⟨_, rfl⟩ <;> rfl, ?_⟩
  rcases h8 with rfl | ⟨_, rfl⟩ <;> simp only [stO, okl0, okl1, okl2, okl3, okl4, okl5, okl6, okl7, okl8, runDf, runCore, inSl, evSs, evS, evE, evP, evT, evTs, evO, evEs, evAs, evI, evX, Res.bind, liftO, Hd.get, getA, getO, Sl.get?, store, bindF, bind1, bindL, storeL, bopD, copD, truD, b1D, b2D, idxD, slcD, augD, putC, isBox, isL, isC, getAll, Ah.get, refsOf, valsOf, putBack, outs, isX, isiD, optI, List.getElem?_cons_zero, List.getElem?_cons_succ, List.getElem?_nil, List.set_cons_zero, List.set_cons_succ, List.map_cons, List.map_nil, Option.map_some, Option.bind_some, Option.isSome_some, List.cons_append, List.nil_append, List.replicate_succ, List.replicate_zero, List.length_cons, List.length_nil, if_true, if_false, Bool.false_eq_true, reduceIte, ite_true, ite_false, h1, h3, Bool.not_true, List.nodup_nil]
theorem s_one_right (hn : 8 ≤ n) (hp : Pot k p) (hk : k ≤ 999999) (hm1 : 1 ≤ m) (hm : m ≤ 9) (hs : s ≤ m) (he : Er e0 e1) (hc : Ch t b) (hb : b ≤ 12) :
    ∃ p', callD Pr.dfOf n 44 [p, .int m, .int s, .tup [.int e0, .int e1], .tup [.int t, .int b]] = some (.ok (.bl true) false [p']) ∧ Pot (k + 1) p' := by
  obtain ⟨kk, rfl, hkk⟩ := up hn
  have ok := hc.ok (m := m) (by omega)
  obtain ⟨p1, p2⟩ := powB ok
  have pl := pow12 hc.b0 hb hm
  have hib := hi_b (s := s) ok (by omega)
  have lob := lo_b (s := s) ok hs
  have oub := out_b (e0 := e0) (e1 := e1) ok
  obtain ⟨z1, r1⟩ := repr_Q hib.1 hib.2 p1 pl
  obtain ⟨z2, r2⟩ := repr_Q lob.1 lob.2 p1 pl
  obtain ⟨z3, r3⟩ := repr_Q oub.1 oub.2 p1 pl
  obtain ⟨z4, r4⟩ := repr_fits (t := t) (b := b) (m := m) (w := b ^ m) (e0 := e0) (e1 := e1) (by omega)
  obtain ⟨fd, p', fm, fe, fp⟩ := s_of (n := kk) (xs := [.int 1, .int 2, .int 10, .int 97, .int 1000]) (by omega) hp (by omega) (by simp) (by simp)
  have ff : ∃ f : Nat, fd = .int f ∧ 1 ≤ f ∧ f ≤ 1000000 := by
    simp only [List.mem_cons, List.not_mem_nil, or_false] at fm
    rcases fm with rfl | rfl | rfl | rfl | rfl
    · exact ⟨1, rfl, by decide, by decide⟩
    · exact ⟨2, rfl, by decide, by decide⟩
    · exact ⟨10, rfl, by decide, by decide⟩
    · exact ⟨97, rfl, by decide, by decide⟩
    · exact ⟨1000, rfl, by decide, by decide⟩
  obtain ⟨f, rfl, f1, f2⟩ := ff
  refine ⟨p', ?_, fp⟩
  rw [callD_def (d := d__law_is_one_right) rfl]
  -- what is called
  have j := s_just (n := kk) (by omega) ok hc.g hm1
  have c14 := s_chance_at_least (n := kk) (by omega) hc hm1 (by omega) hs
  have c15 := s_chance_no_more (n := kk) (by omega) hc hm1 (by omega) hs
  have sf := sum_from (n := kk) (by omega) ok hs
  have st := sum_to (n := kk) (by omega) ok hs
  have es : ((s : Int) + 1) = ((s + 1 : Nat) : Int) := rfl
  have c18 := s_stretch (n := kk) (by omega) hc hm1 (by omega) he hs
  have c42 := s_law_in (n := kk) (by omega) ok hc.g hm1 hs he
  have c28 := s_is_bool (n := kk) (by omega) (x := inS t (b - t) m s (b ^ m) e0 e1)
  have c22 := s_seen_in (n := kk) (by omega) hc hm1 (by omega) he
  have c21 := s_left_out (n := kk) (by omega) hc hm1 (by omega) he
  obtain ⟨Γ1, d1, b1, t1⟩ := side_step (t := t) (b := b) (p' := p') (r5 := .sh (.lst (J t b m))) (s7 := .no) (s8 := .no) (low := true) (rest := [.no, .no, .no, .no, .no]) (by omega) hm1 (by omega) hs he f1 f2 (.inl rfl) (.inl rfl)
  obtain ⟨Γ2, d2, b2, t2⟩ := side_step (t := t) (b := b) (p' := p') (r5 := .sh (.lst (J t b m))) (s7 := .sh (.str (sideS true))) (s8 := .sh d1) (low := false) (rest := [.no, .no, .no, .no, .no]) (by omega) hm1 (by omega) hs he f1 f2 (.inr ⟨_, rfl⟩) (.inr ⟨_, rfl⟩)
  refine run_rt (Γ0 := stO p m s e0 e1 t b [.no, .no, .no, .no, .no, .no, .no, .no, .no]) rfl rfl ?_ (Γ' := stO p' m s e0 e1 t b [.sh (.lst (J t b m)), .sh (.int f), .sh (.str (sideS false)), .sh d2, .sh (.tup (fitsL t (b - t) m (b ^ m) e0 e1)), .sh (Q (outL t (b - t) m (b ^ m) e0 e1).sum (b ^ m)), .sh (Q (outL t (b - t) m (b ^ m) e0 e1).sum (b ^ m)), .no, .no]) rfl
  refine (ss_nx (Γ1 := stO p m s e0 e1 t b [.sh (.lst (J t b m)), .no, .no, .no, .no, .no, .no, .no, .no]) (by simp only [stO, okl0, okl1, okl2, okl3, okl4, okl5, okl6, okl7, okl8, runDf, runCore, inSl, evSs, evS, evE, evP, evT, evTs, evO, evEs, evAs, evI, evX, Res.bind, liftO, Hd.get, getA, getO, Sl.get?, store, bindF, bind1, bindL, storeL, bopD, copD, truD, b1D, b2D, idxD, slcD, augD, putC, isBox, isL, isC, getAll, Ah.get, refsOf, valsOf, putBack, outs, isX, isiD, optI, List.getElem?_cons_zero, List.getElem?_cons_succ, List.getElem?_nil, List.set_cons_zero, List.set_cons_succ, List.map_cons, List.map_nil, Option.map_some, Option.bind_some, Option.isSome_some, List.cons_append, List.nil_append, List.replicate_succ, List.replicate_zero, List.length_cons, List.length_nil, if_true, if_false, Bool.false_eq_true, reduceIte, ite_true, ite_false, j, List.nodup_nil])).trans ?_
  refine (ss_nx (Γ1 := stO p m s e0 e1 t b [.sh (.lst (J t b m)), .no, .no, .no, .no, .no, .no, .no, .no]) ((s_iteF (ne_repr (d := Q (hi t (b - t) m s) (b ^ m)) (fr := false) (fr' := false) ?_ ?_ r1)).trans rfl)).trans ?_
  · simp only [stO, okl0, okl1, okl2, okl3, okl4, okl5, okl6, okl7, okl8, runDf, runCore, inSl, evSs, evS, evE, evP, evT, evTs, evO, evEs, evAs, evI, evX, Res.bind, liftO, Hd.get, getA, getO, Sl.get?, store, bindF, bind1, bindL, storeL, bopD, copD, truD, b1D, b2D, idxD, slcD, augD, putC, isBox, isL, isC, getAll, Ah.get, refsOf, valsOf, putBack, outs, isX, isiD, optI, List.getElem?_cons_zero, List.getElem?_cons_succ, List.getElem?_nil, List.set_cons_zero, List.set_cons_succ, List.map_cons, List.map_nil, Option.map_some, Option.bind_some, Option.isSome_some, List.cons_append, List.nil_append, List.replicate_succ, List.replicate_zero, List.length_cons, List.length_nil, if_true, if_false, Bool.false_eq_true, reduceIte, ite_true, ite_false, c14, List.nodup_nil]
  · simp only [stO, okl0, okl1, okl2, okl3, okl4, okl5, okl6, okl7, okl8, runDf, runCore, inSl, evSs, evS, evE, evP, evT, evTs, evO, evEs, evAs, evI, evX, Res.bind, liftO, Hd.get, getA, getO, Sl.get?, store, bindF, bind1, bindL, storeL, bopD, copD, truD, b1D, b2D, idxD, slcD, augD, putC, isBox, isL, isC, getAll, Ah.get, refsOf, valsOf, putBack, outs, isX, isiD, optI, List.getElem?_cons_zero, List.getElem?_cons_succ, List.getElem?_nil, List.set_cons_zero, List.set_cons_succ, List.map_cons, List.map_nil, Option.map_some, Option.bind_some, Option.isSome_some, List.cons_append, List.nil_append, List.replicate_succ, List.replicate_zero, List.length_cons, List.length_nil, if_true, if_false, Bool.false_eq_true, reduceIte, ite_true, ite_false, sf, List.nodup_nil]
  refine (ss_nx (Γ1 := stO p m s e0 e1 t b [.sh (.lst (J t b m)), .no, .no, .no, .no, .no, .no, .no, .no]) ((s_iteF (ne_repr (d := Q (lo t (b - t) m s) (b ^ m)) (fr := false) (fr' := false) ?_ ?_ r2)).trans rfl)).trans ?_
  · simp only [stO, okl0, okl1, okl2, okl3, okl4, okl5, okl6, okl7, okl8, runDf, runCore, inSl, evSs, evS, evE, evP, evT, evTs, evO, evEs, evAs, evI, evX, Res.bind, liftO, Hd.get, getA, getO, Sl.get?, store, bindF, bind1, bindL, storeL, bopD, copD, truD, b1D, b2D, idxD, slcD, augD, putC, isBox, isL, isC, getAll, Ah.get, refsOf, valsOf, putBack, outs, isX, isiD, optI, List.getElem?_cons_zero, List.getElem?_cons_succ, List.getElem?_nil, List.set_cons_zero, List.set_cons_succ, List.map_cons, List.map_nil, Option.map_some, Option.bind_some, Option.isSome_some, List.cons_append, List.nil_append, List.replicate_succ, List.replicate_zero, List.length_cons, List.length_nil, if_true, if_false, Bool.false_eq_true, reduceIte, ite_true, ite_false, c15, List.nodup_nil]
  · simp only [stO, okl0, okl1, okl2, okl3, okl4, okl5, okl6, okl7, okl8, runDf, runCore, inSl, evSs, evS, evE, evP, evT, evTs, evO, evEs, evAs, evI, evX, Res.bind, liftO, Hd.get, getA, getO, Sl.get?, store, bindF, bind1, bindL, storeL, bopD, copD, truD, b1D, b2D, idxD, slcD, augD, putC, isBox, isL, isC, getAll, Ah.get, refsOf, valsOf, putBack, outs, isX, isiD, optI, List.getElem?_cons_zero, List.getElem?_cons_succ, List.getElem?_nil, List.set_cons_zero, List.set_cons_succ, List.map_cons, List.map_nil, Option.map_some, Option.bind_some, Option.isSome_some, List.cons_append, List.nil_append, List.replicate_succ, List.replicate_zero, List.length_cons, List.length_nil, if_true, if_false, Bool.false_eq_true, reduceIte, ite_true, ite_false, es, st, List.nodup_nil]
  refine (ss_nx (Γ1 := stO p m s e0 e1 t b [.sh (.lst (J t b m)), .no, .no, .no, .no, .no, .no, .no, .no]) (by simp only [stO, okl0, okl1, okl2, okl3, okl4, okl5, okl6, okl7, okl8, runDf, runCore, inSl, evSs, evS, evE, evP, evT, evTs, evO, evEs, evAs, evI, evX, Res.bind, liftO, Hd.get, getA, getO, Sl.get?, store, bindF, bind1, bindL, storeL, bopD, copD, truD, b1D, b2D, idxD, slcD, augD, putC, isBox, isL, isC, getAll, Ah.get, refsOf, valsOf, putBack, outs, isX, isiD, optI, List.getElem?_cons_zero, List.getElem?_cons_succ, List.getElem?_nil, List.set_cons_zero, List.set_cons_succ, List.map_cons, List.map_nil, Option.map_some, Option.bind_some, Option.isSome_some, List.cons_append, List.nil_append, List.replicate_succ, List.replicate_zero, List.length_cons, List.length_nil, if_true, if_false, Bool.false_eq_true, reduceIte, ite_true, ite_false, c18, c42, c28, Bool.not_true, List.nodup_nil])).trans ?_
  refine (ss_nx (Γ1 := stO p' m s e0 e1 t b [.sh (.lst (J t b m)), .sh (.int f), .no, .no, .no, .no, .no, .no, .no]) (by simp only [stO, okl0, okl1, okl2, okl3, okl4, okl5, okl6, okl7, okl8, runDf, runCore, inSl, evSs, evS, evE, evP, evT, evTs, evO, evEs, evAs, evI, evX, Res.bind, liftO, Hd.get, getA, getO, Sl.get?, store, bindF, bind1, bindL, storeL, bopD, copD, truD, b1D, b2D, idxD, slcD, augD, putC, isBox, isL, isC, getAll, Ah.get, refsOf, valsOf, putBack, outs, isX, isiD, optI, List.getElem?_cons_zero, List.getElem?_cons_succ, List.getElem?_nil, List.set_cons_zero, List.set_cons_succ, List.map_cons, List.map_nil, Option.map_some, Option.bind_some, Option.isSome_some, List.cons_append, List.nil_append, List.replicate_succ, List.replicate_zero, List.length_cons, List.length_nil, if_true, if_false, Bool.false_eq_true, reduceIte, ite_true, ite_false, fe, List.nodup_cons, List.not_mem_nil, not_false_eq_true, List.nodup_nil, and_self])).trans ?_
  refine (ss_nx (Γ1 := stO p' m s e0 e1 t b [.sh (.lst (J t b m)), .sh (.int f), .sh (.str (sideS false)), .sh d2, .no, .no, .no, .no, .no]) (e_for (Γ1 := stO p' m s e0 e1 t b [.sh (.lst (J t b m)), .sh (.int f), .no, .no, .no, .no, .no, .no, .no]) (xs := [.str (sideS true), .str (sideS false)]) rfl ?_)).trans ?_
  · unfold forL
    rw [b1]
    dsimp only
    rw [t1]
    dsimp only
    unfold forL
    rw [b2]
    dsimp only
    rw [t2]
    rfl
  -- fits
  have cf := cmp_rngF (cf := callD Pr.dfOf kk) (Γ := stO p' m s e0 e1 t b [.sh (.lst (J t b m)), .sh (.int f), .sh (.str (sideS false)), .sh d2, .no, .no, .no, .no, .no]) (Γ1 := stO p' m s e0 e1 t b [.sh (.lst (J t b m)), .sh (.int f), .sh (.str (sideS false)), .sh d2, .no, .no, .no, .no, .no]) (Γ2 := stO p' m s e0 e1 t b [.sh (.lst (J t b m)), .sh (.int f), .sh (.str (sideS false)), .sh d2, .no, .no, .no, .no, .no])
    (own := [12]) (n := 14) (g := .nm 12) (it := .rng1 (.e (.bin .add (.pek 1) (.e (.cst (.int 1)))))) (elt := .var 12) (t := .val (.e (.cal 42 (.val (.var 1) (.val (.var 12) (.val (.var 3) (.val (.var 4) (.nil))))))))
    (ev_rng1 (k := m + 1) (ev_P (fr := false) rfl) rfl (by omega)) rfl (fun s => if inS t (b - t) m s (b ^ m) e0 e1 then some (.int s) else none) (by omega) rfl fun i hi => by
      refine ⟨stO p' m s e0 e1 t b [.sh (.lst (J t b m)), .sh (.int f), .sh (.str (sideS false)), .sh d2, .no, .no, .no, .sh (.int i), .no], inS t (b - t) m i (b ^ m) e0 e1, stO p' m s e0 e1 t b [.sh (.lst (J t b m)), .sh (.int f), .sh (.str (sideS false)), .sh d2, .no, .no, .no, .sh (.int i), .no], rfl, ?_, ?_⟩
      · have c := s_law_in (n := kk) (by omega) ok hc.g hm1 (show i ≤ m by omega) he
        simp only [stO, okl0, okl1, okl2, okl3, okl4, okl5, okl6, okl7, okl8, runDf, runCore, inSl, evSs, evS, evE, evP, evT, evTs, evO, evEs, evAs, evI, evX, Res.bind, liftO, Hd.get, getA, getO, Sl.get?, store, bindF, bind1, bindL, storeL, bopD, copD, truD, b1D, b2D, idxD, slcD, augD, putC, isBox, isL, isC, getAll, Ah.get, refsOf, valsOf, putBack, outs, isX, isiD, optI, List.getElem?_cons_zero, List.getElem?_cons_succ, List.getElem?_nil, List.set_cons_zero, List.set_cons_succ, List.map_cons, List.map_nil, Option.map_some, Option.bind_some, Option.isSome_some, List.cons_append, List.nil_append, List.replicate_succ, List.replicate_zero, List.length_cons, List.length_nil, if_true, if_false, Bool.false_eq_true, reduceIte, ite_true, ite_false, c, List.nodup_nil]
      · cases inS t (b - t) m i (b ^ m) e0 e1 with
        | true => exact ⟨_, false, _, rfl, rfl, rfl⟩
        | false => exact ⟨rfl, rfl⟩
  refine (ss_nx (Γ1 := stO p' m s e0 e1 t b [.sh (.lst (J t b m)), .sh (.int f), .sh (.str (sideS false)), .sh d2, .sh (.tup (fitsL t (b - t) m (b ^ m) e0 e1)), .no, .no, .no, .no]) (e_asgN (d := .tup (fitsL t (b - t) m (b ^ m) e0 e1)) (fr := false) (ev_bl1 cf rfl) rfl)).trans ?_
  refine (ss_nx (Γ1 := stO p' m s e0 e1 t b [.sh (.lst (J t b m)), .sh (.int f), .sh (.str (sideS false)), .sh d2, .sh (.tup (fitsL t (b - t) m (b ^ m) e0 e1)), .no, .no, .no, .no]) ((s_iteF ?_).trans rfl)).trans ?_
  · have h22 : evE (callD Pr.dfOf kk) (.cal 22 (.val (.var 1) (.val (.var 3) (.val (.var 4) (.nil))))) (stO p' m s e0 e1 t b [.sh (.lst (J t b m)), .sh (.int f), .sh (.str (sideS false)), .sh d2, .sh (.tup (fitsL t (b - t) m (b ^ m) e0 e1)), .no, .no, .no, .no]) = .ok (.tup (fitsL t (b - t) m (b ^ m) e0 e1), false) (stO p' m s e0 e1 t b [.sh (.lst (J t b m)), .sh (.int f), .sh (.str (sideS false)), .sh d2, .sh (.tup (fitsL t (b - t) m (b ^ m) e0 e1)), .no, .no, .no, .no]) := by
      simp only [stO, okl0, okl1, okl2, okl3, okl4, okl5, okl6, okl7, okl8, runDf, runCore, inSl, evSs, evS, evE, evP, evT, evTs, evO, evEs, evAs, evI, evX, Res.bind, liftO, Hd.get, getA, getO, Sl.get?, store, bindF, bind1, bindL, storeL, bopD, copD, truD, b1D, b2D, idxD, slcD, augD, putC, isBox, isL, isC, getAll, Ah.get, refsOf, valsOf, putBack, outs, isX, isiD, optI, List.getElem?_cons_zero, List.getElem?_cons_succ, List.getElem?_nil, List.set_cons_zero, List.set_cons_succ, List.map_cons, List.map_nil, Option.map_some, Option.bind_some, Option.isSome_some, List.cons_append, List.nil_append, List.replicate_succ, List.replicate_zero, List.length_cons, List.length_nil, if_true, if_false, Bool.false_eq_true, reduceIte, ite_true, ite_false, c22, List.nodup_nil]
    have rp : evE (callD Pr.dfOf kk) (.bl1 .repr (.pek 9)) (stO p' m s e0 e1 t b [.sh (.lst (J t b m)), .sh (.int f), .sh (.str (sideS false)), .sh d2, .sh (.tup (fitsL t (b - t) m (b ^ m) e0 e1)), .no, .no, .no, .no]) = .ok (.str z4, false) (stO p' m s e0 e1 t b [.sh (.lst (J t b m)), .sh (.int f), .sh (.str (sideS false)), .sh d2, .sh (.tup (fitsL t (b - t) m (b ^ m) e0 e1)), .no, .no, .no, .no]) := by
      rw [evE]
      show (liftO (b1D .repr (.tup (fitsL t (b - t) m (b ^ m) e0 e1))) _).bind _ = _
      rw [r4]
      rfl
    exact ev_tv (ev_cmp2 (ev_bl1 h22 r4) rp (by show (eqD (.str z4) (.str z4)).map _ = _; rw [eq_strS]; rfl))
  refine (ss_nx (Γ1 := stO p' m s e0 e1 t b [.sh (.lst (J t b m)), .sh (.int f), .sh (.str (sideS false)), .sh d2, .sh (.tup (fitsL t (b - t) m (b ^ m) e0 e1)), .sh (Q (outL t (b - t) m (b ^ m) e0 e1).sum (b ^ m)), .no, .no, .no]) (by simp only [stO, okl0, okl1, okl2, okl3, okl4, okl5, okl6, okl7, okl8, runDf, runCore, inSl, evSs, evS, evE, evP, evT, evTs, evO, evEs, evAs, evI, evX, Res.bind, liftO, Hd.get, getA, getO, Sl.get?, store, bindF, bind1, bindL, storeL, bopD, copD, truD, b1D, b2D, idxD, slcD, augD, putC, isBox, isL, isC, getAll, Ah.get, refsOf, valsOf, putBack, outs, isX, isiD, optI, List.getElem?_cons_zero, List.getElem?_cons_succ, List.getElem?_nil, List.set_cons_zero, List.set_cons_succ, List.map_cons, List.map_nil, Option.map_some, Option.bind_some, Option.isSome_some, List.cons_append, List.nil_append, List.replicate_succ, List.replicate_zero, List.length_cons, List.length_nil, if_true, if_false, Bool.false_eq_true, reduceIte, ite_true, ite_false, c21, List.nodup_nil])).trans ?_
  -- due
  have cd := cmp_ixF (cf := callD Pr.dfOf kk) (Γ := stO p' m s e0 e1 t b [.sh (.lst (J t b m)), .sh (.int f), .sh (.str (sideS false)), .sh d2, .sh (.tup (fitsL t (b - t) m (b ^ m) e0 e1)), .sh (Q (outL t (b - t) m (b ^ m) e0 e1).sum (b ^ m)), .no, .no, .no]) (Γ1 := stO p' m s e0 e1 t b [.sh (.lst (J t b m)), .sh (.int f), .sh (.str (sideS false)), .sh d2, .sh (.tup (fitsL t (b - t) m (b ^ m) e0 e1)), .sh (Q (outL t (b - t) m (b ^ m) e0 e1).sum (b ^ m)), .no, .no, .no]) (Γ2 := stO p' m s e0 e1 t b [.sh (.lst (J t b m)), .sh (.int f), .sh (.str (sideS false)), .sh d2, .sh (.tup (fitsL t (b - t) m (b ^ m) e0 e1)), .sh (Q (outL t (b - t) m (b ^ m) e0 e1).sum (b ^ m)), .no, .no, .no])
    (own := [13, 12]) (n := 14) (k := m + 1) (g := .tp (.cons (.nm 13) (.cons (.nm 12) (.nil)))) (it := .enm (.var 5)) (elt := .var 12) (t := .val (.e (.cmp .notin (.pek 13) (.pek 9))))
    (h := fun i => .tup [.int i, Q (bn t (b - t) m i) (b ^ m)]) (by rw [ev_enm (fr := false) (xs := J t b m) rfl]; unfold J; rw [enum_map]) rfl (fun s => if inS t (b - t) m s (b ^ m) e0 e1 then none else some (Q (bn t (b - t) m s) (b ^ m))) (by omega) rfl fun i hi => by
      refine ⟨stO p' m s e0 e1 t b [.sh (.lst (J t b m)), .sh (.int f), .sh (.str (sideS false)), .sh d2, .sh (.tup (fitsL t (b - t) m (b ^ m) e0 e1)), .sh (Q (outL t (b - t) m (b ^ m) e0 e1).sum (b ^ m)), .no, .sh (Q (bn t (b - t) m i) (b ^ m)), .sh (.int i)], !inS t (b - t) m i (b ^ m) e0 e1, stO p' m s e0 e1 t b [.sh (.lst (J t b m)), .sh (.int f), .sh (.str (sideS false)), .sh d2, .sh (.tup (fitsL t (b - t) m (b ^ m) e0 e1)), .sh (Q (outL t (b - t) m (b ^ m) e0 e1).sum (b ^ m)), .no, .sh (Q (bn t (b - t) m i) (b ^ m)), .sh (.int i)], rfl, ?_, ?_⟩
      · have c : inD (.int (i : Int)) (fitsL t (b - t) m (b ^ m) e0 e1) = some (inS t (b - t) m i (b ^ m) e0 e1) := by rw [fits_map, in_ints, mem_fits (by omega)]
        simp only [stO, okl0, okl1, okl2, okl3, okl4, okl5, okl6, okl7, okl8, runDf, runCore, inSl, evSs, evS, evE, evP, evT, evTs, evO, evEs, evAs, evI, evX, Res.bind, liftO, Hd.get, getA, getO, Sl.get?, store, bindF, bind1, bindL, storeL, bopD, copD, truD, b1D, b2D, idxD, slcD, augD, putC, isBox, isL, isC, getAll, Ah.get, refsOf, valsOf, putBack, outs, isX, isiD, optI, List.getElem?_cons_zero, List.getElem?_cons_succ, List.getElem?_nil, List.set_cons_zero, List.set_cons_succ, List.map_cons, List.map_nil, Option.map_some, Option.bind_some, Option.isSome_some, List.cons_append, List.nil_append, List.replicate_succ, List.replicate_zero, List.length_cons, List.length_nil, if_true, if_false, Bool.false_eq_true, reduceIte, ite_true, ite_false, c]
      · cases inS t (b - t) m i (b ^ m) e0 e1 with
        | true => exact ⟨rfl, rfl⟩
        | false => exact ⟨_, false, _, rfl, rfl, rfl⟩
  have eo : (List.range (m + 1)).filterMap (fun s => if inS t (b - t) m s (b ^ m) e0 e1 then none else some (Q (bn t (b - t) m s) (b ^ m))) = Qs (b ^ m) (outL t (b - t) m (b ^ m) e0 e1) := by
    unfold outL Qs
    rw [List.map_filterMap]
    refine congrArg (fun g => List.filterMap g (List.range (m + 1))) (funext fun s => ?_)
    cases inS t (b - t) m s (b ^ m) e0 e1 with
    | true => exact Eq.refl none
    | false => exact Eq.refl (some _)
  rw [eo] at cd
  have c33 := s_sum (n := kk) (d := b ^ m) (y := b ^ m) (xs := outL t (b - t) m (b ^ m) e0 e1) (by omega) p1 (sm1800 p2) p2 (fun x hx => by
    unfold outL at hx
    obtain ⟨i, _, e⟩ := List.mem_filterMap.mp hx
    split at e
    · cases e
    · cases e; exact (bn_le ok).1) oub.2
  refine (ss_nx (Γ1 := stO p' m s e0 e1 t b [.sh (.lst (J t b m)), .sh (.int f), .sh (.str (sideS false)), .sh d2, .sh (.tup (fitsL t (b - t) m (b ^ m) e0 e1)), .sh (Q (outL t (b - t) m (b ^ m) e0 e1).sum (b ^ m)), .sh (Q (outL t (b - t) m (b ^ m) e0 e1).sum (b ^ m)), .no, .no]) (e_asgN (d := Q (outL t (b - t) m (b ^ m) e0 e1).sum (b ^ m)) (fr := false) (ev_cal1 cd c33) rfl)).trans ?_
  -- the end
  have ls := lis_less_Q (n := kk) (by omega) he.b0 p1 he.s0.1 (sm1800 (sm_le oub p2)) he.s0.2 (sm1800 p2)
  rw [Q_red he.b0 he.g] at ls
  have ol := out_le ok he
  have dl : decide (e0 * b ^ m < (outL t (b - t) m (b ^ m) e0 e1).sum * e1) = false := decide_eq_false (by omega)
  rw [dl] at ls
  refine ss_rt (e_ret (d := .bl true) (fr := false) ?_)
  have rp : ∀ i : Nat, i = 10 ∨ i = 11 → evE (callD Pr.dfOf kk) (.bl1 .repr (.pek i)) (stO p' m s e0 e1 t b [.sh (.lst (J t b m)), .sh (.int f), .sh (.str (sideS false)), .sh d2, .sh (.tup (fitsL t (b - t) m (b ^ m) e0 e1)), .sh (Q (outL t (b - t) m (b ^ m) e0 e1).sum (b ^ m)), .sh (Q (outL t (b - t) m (b ^ m) e0 e1).sum (b ^ m)), .no, .no]) = .ok (.str z3, false) (stO p' m s e0 e1 t b [.sh (.lst (J t b m)), .sh (.int f), .sh (.str (sideS false)), .sh d2, .sh (.tup (fitsL t (b - t) m (b ^ m) e0 e1)), .sh (Q (outL t (b - t) m (b ^ m) e0 e1).sum (b ^ m)), .sh (Q (outL t (b - t) m (b ^ m) e0 e1).sum (b ^ m)), .no, .no]) := fun i hi => by
    rcases hi with rfl | rfl
    · rw [evE]
      show (liftO (b1D .repr (Q (outL t (b - t) m (b ^ m) e0 e1).sum (b ^ m))) _).bind _ = _
      rw [r3]
      rfl
    · rw [evE]
      show (liftO (b1D .repr (Q (outL t (b - t) m (b ^ m) e0 e1).sum (b ^ m))) _).bind _ = _
      rw [r3]
      rfl
  have g := ev_cmp2 (o := .eq) (c := true) (rp 10 (.inl rfl)) (rp 11 (.inr rfl)) (by show eqD (.str z3) (.str z3) = _; rw [eq_strS])
  rw [evE, evP, g]
  simp only [stO, okl0, okl1, okl2, okl3, okl4, okl5, okl6, okl7, okl8, runDf, runCore, inSl, evSs, evS, evE, evP, evT, evTs, evO, evEs, evAs, evI, evX, Res.bind, liftO, Hd.get, getA, getO, Sl.get?, store, bindF, bind1, bindL, storeL, bopD, copD, truD, b1D, b2D, idxD, slcD, augD, putC, isBox, isL, isC, getAll, Ah.get, refsOf, valsOf, putBack, outs, isX, isiD, optI, List.getElem?_cons_zero, List.getElem?_cons_succ, List.getElem?_nil, List.set_cons_zero, List.set_cons_succ, List.map_cons, List.map_nil, Option.map_some, Option.bind_some, Option.isSome_some, List.cons_append, List.nil_append, List.replicate_succ, List.replicate_zero, List.length_cons, List.length_nil, if_true, if_false, Bool.false_eq_true, reduceIte, ite_true, ite_false, ls, Bool.not_false, List.nodup_nil]
end
end Dn.K69
end

section
set_option linter.all false
set_option autoImplicit false
set_option maxRecDepth 100000
set_option Elab.async false
set_option exponentiation.threshold 500000
/-! M69O: what is refused. -/
namespace Dn.K69
open PySem PySem.Spec PyProof.Rows L2 Dn
def bcs : List D := [.non, .int 1, .tup [.int 2, .int 4], .tup [.int 1, .int 0], .tup [.int (-1), .int 2], .tup [.int 3, .int 2], .str "1/2", .tup [.bl true, .int 1]]
theorem g1 (k : Nat) : ∀ d ∈ [D.non, .bl true, .int 0, .int 61, .str "1"], noY d = true ∧ callD Pr.dfOf (k + 12) 36 [.lst [.clo 48 [d], .clo 49 [d], .clo 50 [d], .clo 51 [d]], .clo 64 [], d] = some (.ok (.bl true) false []) := fun d hd => by
  simp only [List.mem_cons, List.not_mem_nil, or_false] at hd
  rcases hd with rfl | rfl | rfl | rfl | rfl <;> exact ⟨rfl, by kernel_rfl⟩
theorem g2 (k : Nat) : ∀ d ∈ [D.non, .bl true, .int 0, .int 1000001, .str "1"], noY d = true ∧ callD Pr.dfOf (k + 12) 36 [.lst [.clo 52 [d]], .clo 65 [], d] = some (.ok (.bl true) false []) := fun d hd => by
  simp only [List.mem_cons, List.not_mem_nil, or_false] at hd
  rcases hd with rfl | rfl | rfl | rfl | rfl <;> exact ⟨rfl, by kernel_rfl⟩
theorem g3 (k : Nat) : ∀ d ∈ [D.non, .bl true, .int (-1), .int 4, .str "1"], noY d = true ∧ callD Pr.dfOf (k + 12) 36 [.lst [.clo 53 [d], .clo 54 [d], .clo 55 [d]], .clo 66 [], d] = some (.ok (.bl true) false []) := fun d hd => by
  simp only [List.mem_cons, List.not_mem_nil, or_false] at hd
  rcases hd with rfl | rfl | rfl | rfl | rfl <;> exact ⟨rfl, by kernel_rfl⟩
theorem g4 (k : Nat) (c : D) (hc : c ∈ bcs) : ∀ d ∈ [c, .tup [.int 0, .int 1], .tup [.int 1, .int 1]], noY d = true ∧ callD Pr.dfOf (k + 12) 36 [.lst [.clo 56 [d], .clo 57 [d], .clo 58 [d]], .clo 67 [], d] = some (.ok (.bl true) false []) := fun d hd => by
  simp only [List.mem_cons, List.not_mem_nil, or_false] at hd
  rcases hd with rfl | rfl | rfl
  · simp only [bcs, List.mem_cons, List.not_mem_nil, or_false] at hc
    rcases hc with rfl | rfl | rfl | rfl | rfl | rfl | rfl | rfl <;> exact ⟨rfl, by kernel_rfl⟩
  · exact ⟨rfl, by kernel_rfl⟩
  · exact ⟨rfl, by kernel_rfl⟩
theorem g5 (k : Nat) : ∀ d ∈ bcs, noY d = true ∧ callD Pr.dfOf (k + 12) 36 [.lst [.clo 59 [d], .clo 60 [d], .clo 61 [d]], .clo 68 [], d] = some (.ok (.bl true) false []) := fun d hd => by
  simp only [bcs, List.mem_cons, List.not_mem_nil, or_false] at hd
  rcases hd with rfl | rfl | rfl | rfl | rfl | rfl | rfl | rfl <;> exact ⟨rfl, by kernel_rfl⟩
theorem g6 (k : Nat) : ∀ d ∈ [D.non, .int 0, .str "", .str "Low", .tup [.str "low"]], noY d = true ∧ callD Pr.dfOf (k + 12) 36 [.lst [.clo 62 [d]], .clo 63 [], d] = some (.ok (.bl true) false []) := fun d hd => by
  simp only [List.mem_cons, List.not_mem_nil, or_false] at hd
  rcases hd with rfl | rfl | rfl | rfl | rfl <;> exact ⟨rfl, by kernel_rfl⟩
end Dn.K69
end

section
set_option linter.all false
set_option autoImplicit false
set_option maxRecDepth 100000
set_option Elab.async false
set_option exponentiation.threshold 500000
/-! M69P: the refused ones, drawn. -/
namespace Dn.K69
open PySem PySem.Spec PyProof.Rows L2 Dn
theorem Pot.noY {k : Nat} {p : D} (h : Pot k p) : Dn.noY p = true := by
  obtain ⟨a, b, c, rfl, _⟩ := h
  rfl
theorem s_bad {n k : Nat} {p : D} (hn : 3 ≤ n) (hp : Pot k p) (hk : k ≤ 1000000) : ∃ (d p' : D), d ∈ bcs ∧ callD Pr.dfOf n 37 [p] = some (.ok d false [p']) ∧ Pot (k + 1) p' := by
  obtain ⟨n, rfl, hn'⟩ := up hn
  obtain ⟨d, p', h1, h2, h3⟩ := s_of (n := n) (xs := bcs) hn' hp hk (by simp [bcs]) (by simp [bcs])
  refine ⟨d, p', h1, ?_, h3⟩
  rw [callD_def (d := d__law_bad_chances) rfl]
  have e : callD Pr.dfOf n 25 [p, .lst [.non, .int 1, .tup [.int 2, .int 4], .tup [.int 1, .int 0], .tup [.int (-1), .int 2], .tup [.int 3, .int 2], .str "1/2", .tup [.bl true, .int 1]]] = some (.ok d false [p']) := h2
  simp only [d__law_bad_chances, df__law_bad_chances, okl0, okl1, okl2, okl3, okl4, okl5, okl6, okl7, okl8, runDf, runCore, inSl, evSs, evS, evE, evP, evT, evTs, evO, evEs, evAs, evI, evX, Res.bind, liftO, Hd.get, getA, getO, Sl.get?, store, bindF, bind1, bindL, storeL, bopD, copD, truD, b1D, b2D, idxD, slcD, augD, putC, isBox, isL, isC, getAll, Ah.get, refsOf, valsOf, putBack, outs, isX, isiD, optI, List.getElem?_cons_zero, List.getElem?_cons_succ, List.getElem?_nil, List.set_cons_zero, List.set_cons_succ, List.map_cons, List.map_nil, Option.map_some, Option.bind_some, Option.isSome_some, List.cons_append, List.nil_append, List.replicate_succ, List.replicate_zero, List.length_cons, List.length_nil, if_true, if_false, Bool.false_eq_true, reduceIte, ite_true, ite_false, e, List.nodup_cons, List.not_mem_nil, not_false_eq_true, List.nodup_nil, and_self]
abbrev jsA : List Nat := [48, 49, 50, 51, 52, 53, 54, 55, 56, 57, 58, 59, 60, 61, 62, 63, 64, 65, 66, 67, 68]
/-- a lambda that captured slot 1 is handed on -/
theorem ripe1 {Γ : Env} {d : D} {j : Nat} (h1 : Γ[1]? = some (.sh d)) (hd : noY d = true) (hj : j ∈ jsA) : ripe jsA Γ (.yng j [1]) = some (.clo j [d]) := by
  unfold ripe
  rw [if_pos hj]
  unfold capsV
  rw [h1]
  dsimp only
  rw [if_pos hd]
  rfl
theorem ripe0 {Γ : Env} {j : Nat} (hj : j ∈ jsA) : ripe jsA Γ (.yng j []) = some (.clo j []) := by
  unfold ripe
  rw [if_pos hj]
  rfl
theorem ripeD {Γ : Env} {d : D} (hd : noY d = true) (hm : d ∈ [D.non, .bl true] ∨ (∃ i, d = .int i) ∨ (∃ s, d = .str s) ∨ ∃ xs, d = .tup xs ∧ ripes jsA Γ xs = some xs) : ripe jsA Γ d = some d := by
  rcases hm with hm | ⟨i, rfl⟩ | ⟨s, rfl⟩ | ⟨xs, rfl, h⟩
  · simp only [List.mem_cons, List.not_mem_nil, or_false] at hm
    rcases hm with rfl | rfl <;> rfl
  · rfl
  · rfl
  · unfold ripe
    rw [h]
    rfl
/-- flat ones are handed on as they are -/
def flatB : D → Bool
  | .tup xs => xs.all fun
    | .int _ => true
    | .str _ => true
    | .bl _ => true
    | _ => false
  | .non => true
  | .bl _ => true
  | .int _ => true
  | .str _ => true
  | _ => false
theorem ripeF {Γ : Env} {d : D} (h : flatB d = true) : ripe jsA Γ d = some d := by
  cases d with
  | tup xs =>
    have aux : ∀ xs : List D, (xs.all fun
      | .int _ => true
      | .str _ => true
      | .bl _ => true
      | _ => false) = true → ripes jsA Γ xs = some xs := by
      intro xs
      induction xs with
      | nil => intro _; rfl
      | cons x xs ih =>
        intro h
        obtain ⟨h1, h2⟩ := Bool.and_eq_true_iff.mp (by rw [List.all_cons] at h; exact h)
        unfold ripes
        rw [ih h2]
        cases x <;> first | rfl | cases h1
    unfold ripe
    rw [aux xs h]
    rfl
  | non => rfl
  | bl b => rfl
  | int i => rfl
  | str s => rfl
  | _ => cases h
theorem fl1 : ∀ d ∈ [D.non, .bl true, .int 0, .int 61, .str "1"], flatB d = true := by decide
theorem fl2 : ∀ d ∈ [D.non, .bl true, .int 0, .int 1000001, .str "1"], flatB d = true := by decide
theorem fl3 : ∀ d ∈ [D.non, .bl true, .int (-1), .int 4, .str "1"], flatB d = true := by decide
theorem fl5 : ∀ d ∈ bcs, flatB d = true := by decide
theorem fl4 (c : D) (hc : c ∈ bcs) : ∀ d ∈ [c, .tup [.int 0, .int 1], .tup [.int 1, .int 1]], flatB d = true := fun d hd => by
  simp only [List.mem_cons, List.not_mem_nil, or_false] at hd
  rcases hd with rfl | rfl | rfl
  · exact fl5 _ hc
  · rfl
  · rfl
theorem fl6 : ∀ d ∈ [D.non, .int 0, .str "", .str "Low", .tup [.str "low"]], flatB d = true := by decide
def yl (js : List Nat) : List D := js.map fun j => .yng j [1]
theorem ripesY {Γ : Env} {d : D} (h1 : Γ[1]? = some (.sh d)) (hd : noY d = true) : ∀ js : List Nat, (∀ j ∈ js, j ∈ jsA) → ripes jsA Γ (yl js) = some (js.map fun j => .clo j [d])
  | [], _ => rfl
  | j :: js, h => by
    show ripes jsA Γ (.yng j [1] :: yl js) = _
    unfold ripes
    rw [ripe1 h1 hd (h j List.mem_cons_self), ripesY h1 hd js fun i hi => h i (List.mem_cons_of_mem _ hi)]
    rfl
theorem st_caly {cf : CallF} {p d : D} {js : List Nat} {jx : Nat} (hjs : ∀ j ∈ js, j ∈ jsA) (hd : noY d = true) (hf : flatB d = true) (hj : jx ∈ jsA) (hc : cf 36 [.lst (js.map fun j => .clo j [d]), .clo jx [], d] = some (.ok (.bl true) false [])) :
    evE cf (.caly 36 (.val (.var 2) (.val (.lam jx []) (.val (.var 1) .nil))) jsA) [.bo p, .sh d, .ow (.lst (yl js))] = .ok (.bl true, false) [.bo p, .sh d, .sh (.lst (yl js))] := by
  have r : ripes jsA [.bo p, .sh d, .sh (.lst (yl js))] [.lst (yl js), .yng jx [], d] = some [.lst (js.map fun j => .clo j [d]), .clo jx [], d] := by
    unfold ripes
    have e1 : ripe jsA [.bo p, .sh d, .sh (.lst (yl js))] (.lst (yl js)) = some (.lst (js.map fun j => .clo j [d])) := by
      unfold ripe
      rw [ripesY rfl hd js hjs]
      rfl
    rw [e1]
    unfold ripes
    rw [ripe0 hj]
    unfold ripes
    rw [ripeF hf]
    rfl
  rw [evE]
  show (match valsOf [.v (.lst (yl js)), .v (.yng jx []), .v d] with
      | some ds => match ripes jsA [.bo p, .sh d, .sh (.lst (yl js))] ds with
        | some ds' => match cf 36 ds' with
          | some (.ok d' false []) => if noC d' = true then Res.ok (d', false) [.bo p, .sh d, .sh (.lst (yl js))] else .no
          | _ => .no
        | none => .no
      | none => .no) = _
  show (match ripes jsA [.bo p, .sh d, .sh (.lst (yl js))] [.lst (yl js), .yng jx [], d] with
        | some ds' => match cf 36 ds' with
          | some (.ok d' false []) => if noC d' = true then Res.ok (d', false) [.bo p, .sh d, .sh (.lst (yl js))] else .no
          | _ => .no
        | none => .no) = _
  rw [r]
  dsimp only
  rw [hc]
  rfl
theorem s_refused {n k : Nat} {p : D} (hn : 13 ≤ n) (hp : Pot k p) (hk : k ≤ 900000) : ∃ p', callD Pr.dfOf n 45 [p] = some (.ok (.bl true) false [p']) ∧ Pot (k + 7) p' := by
  obtain ⟨n, rfl, hn'⟩ := up hn
  obtain ⟨kk, rfl⟩ : ∃ kk, n = kk + 12 := ⟨n - 12, by omega⟩
  obtain ⟨b1, p1, m1, e1, q1⟩ := s_of (n := kk + 12) (xs := [D.non, .bl true, .int 0, .int 61, .str "1"]) (by omega) hp (by omega) (by simp) (by simp)
  obtain ⟨b2, p2, m2, e2, q2⟩ := s_of (n := kk + 12) (xs := [D.non, .bl true, .int 0, .int 1000001, .str "1"]) (by omega) q1 (by omega) (by simp) (by simp)
  obtain ⟨b3, p3, m3, e3, q3⟩ := s_of (n := kk + 12) (xs := [D.non, .bl true, .int (-1), .int 4, .str "1"]) (by omega) q2 (by omega) (by simp) (by simp)
  obtain ⟨c4, r4, mc4, ec4, qc4⟩ := s_bad (n := kk + 12) (by omega) q3 (by omega)
  obtain ⟨b4, p4, m4, e4, q4⟩ := s_of (n := kk + 12) (xs := [c4, .tup [.int 0, .int 1], .tup [.int 1, .int 1]]) (by omega) qc4 (by omega) (by simp) (by simp)
  obtain ⟨b5, p5, m5, e5, q5⟩ := s_bad (n := kk + 12) (by omega) q4 (by omega)
  obtain ⟨b6, p6, m6, e6, q6⟩ := s_of (n := kk + 12) (xs := [D.non, .int 0, .str "", .str "Low", .tup [.str "low"]]) (by omega) q5 (by omega) (by simp) (by simp)
  refine ⟨p6, ?_, q6.mono (by omega)⟩
  rw [callD_def (d := d__law_are_odd_refused) rfl]
  have nd : (List.Nodup [0] : Prop) := by decide
  have po : powD 10 6 = some 1000000 := by decide
  refine run_rtY (Γ0 := [.bo p, .no, .no]) rfl (by show (noY p && noYs []) = true; rw [hp.noY]; rfl) rfl ?_ (Γ' := [.bo p6, .sh b6, .sh (.lst (yl [62]))]) rfl rfl (by show (noY p6 && noYs []) = true; rw [q6.noY]; rfl)
  -- 1
  refine (ss_nx (Γ1 := [.bo p1, .sh b1, .no]) (by simp only [okl0, okl1, okl2, okl3, okl4, okl5, okl6, okl7, okl8, runDf, runCore, inSl, evSs, evS, evE, evP, evT, evTs, evO, evEs, evAs, evI, evX, Res.bind, liftO, Hd.get, getA, getO, Sl.get?, store, bindF, bind1, bindL, storeL, bopD, copD, truD, b1D, b2D, idxD, slcD, augD, putC, isBox, isL, isC, getAll, Ah.get, refsOf, valsOf, putBack, outs, isX, isiD, optI, List.getElem?_cons_zero, List.getElem?_cons_succ, List.getElem?_nil, List.set_cons_zero, List.set_cons_succ, List.map_cons, List.map_nil, Option.map_some, Option.bind_some, Option.isSome_some, List.cons_append, List.nil_append, List.replicate_succ, List.replicate_zero, List.length_cons, List.length_nil, if_true, if_false, Bool.false_eq_true, reduceIte, ite_true, ite_false, e1, nd])).trans ?_
  refine (ss_nx (Γ1 := [.bo p1, .sh b1, .ow (.lst (yl [48]))]) rfl).trans ?_
  refine (ss_nx (Γ1 := [.bo p1, .sh b1, .ow (.lst (yl [48, 49]))]) rfl).trans ?_
  refine (ss_nx (Γ1 := [.bo p1, .sh b1, .ow (.lst (yl [48, 49, 50]))]) rfl).trans ?_
  refine (ss_nx (Γ1 := [.bo p1, .sh b1, .ow (.lst (yl [48, 49, 50, 51]))]) rfl).trans ?_
  refine (ss_nx (Γ1 := [.bo p1, .sh b1, .sh (.lst (yl [48, 49, 50, 51]))]) ((s_iteF (ev_not (c := true) (ev_tv (st_caly (jx := 64) (by decide) (g1 kk b1 m1).1 (fl1 b1 m1) (by decide) (g1 kk b1 m1).2)))).trans rfl)).trans ?_
  -- 2
  refine (ss_nx (Γ1 := [.bo p2, .sh b2, .sh (.lst (yl [48, 49, 50, 51]))]) (by simp only [okl0, okl1, okl2, okl3, okl4, okl5, okl6, okl7, okl8, runDf, runCore, inSl, evSs, evS, evE, evP, evT, evTs, evO, evEs, evAs, evI, evX, Res.bind, liftO, Hd.get, getA, getO, Sl.get?, store, bindF, bind1, bindL, storeL, bopD, copD, truD, b1D, b2D, idxD, slcD, augD, putC, isBox, isL, isC, getAll, Ah.get, refsOf, valsOf, putBack, outs, isX, isiD, optI, List.getElem?_cons_zero, List.getElem?_cons_succ, List.getElem?_nil, List.set_cons_zero, List.set_cons_succ, List.map_cons, List.map_nil, Option.map_some, Option.bind_some, Option.isSome_some, List.cons_append, List.nil_append, List.replicate_succ, List.replicate_zero, List.length_cons, List.length_nil, if_true, if_false, Bool.false_eq_true, reduceIte, ite_true, ite_false, po, show (1000000 : Int) + 1 = 1000001 from rfl, e2, nd])).trans ?_
  refine (ss_nx (Γ1 := [.bo p2, .sh b2, .ow (.lst (yl [52]))]) rfl).trans ?_
  refine (ss_nx (Γ1 := [.bo p2, .sh b2, .sh (.lst (yl [52]))]) ((s_iteF (ev_not (c := true) (ev_tv (st_caly (jx := 65) (by decide) (g2 kk b2 m2).1 (fl2 b2 m2) (by decide) (g2 kk b2 m2).2)))).trans rfl)).trans ?_
  -- 3
  refine (ss_nx (Γ1 := [.bo p3, .sh b3, .sh (.lst (yl [52]))]) (by simp only [okl0, okl1, okl2, okl3, okl4, okl5, okl6, okl7, okl8, runDf, runCore, inSl, evSs, evS, evE, evP, evT, evTs, evO, evEs, evAs, evI, evX, Res.bind, liftO, Hd.get, getA, getO, Sl.get?, store, bindF, bind1, bindL, storeL, bopD, copD, truD, b1D, b2D, idxD, slcD, augD, putC, isBox, isL, isC, getAll, Ah.get, refsOf, valsOf, putBack, outs, isX, isiD, optI, List.getElem?_cons_zero, List.getElem?_cons_succ, List.getElem?_nil, List.set_cons_zero, List.set_cons_succ, List.map_cons, List.map_nil, Option.map_some, Option.bind_some, Option.isSome_some, List.cons_append, List.nil_append, List.replicate_succ, List.replicate_zero, List.length_cons, List.length_nil, if_true, if_false, Bool.false_eq_true, reduceIte, ite_true, ite_false, e3, nd])).trans ?_
  refine (ss_nx (Γ1 := [.bo p3, .sh b3, .ow (.lst (yl [53]))]) rfl).trans ?_
  refine (ss_nx (Γ1 := [.bo p3, .sh b3, .ow (.lst (yl [53, 54]))]) rfl).trans ?_
  refine (ss_nx (Γ1 := [.bo p3, .sh b3, .ow (.lst (yl [53, 54, 55]))]) rfl).trans ?_
  refine (ss_nx (Γ1 := [.bo p3, .sh b3, .sh (.lst (yl [53, 54, 55]))]) ((s_iteF (ev_not (c := true) (ev_tv (st_caly (jx := 66) (by decide) (g3 kk b3 m3).1 (fl3 b3 m3) (by decide) (g3 kk b3 m3).2)))).trans rfl)).trans ?_
  -- 4
  refine (ss_nx (Γ1 := [.bo p4, .sh b4, .sh (.lst (yl [53, 54, 55]))]) (by simp only [okl0, okl1, okl2, okl3, okl4, okl5, okl6, okl7, okl8, runDf, runCore, inSl, evSs, evS, evE, evP, evT, evTs, evO, evEs, evAs, evI, evX, Res.bind, liftO, Hd.get, getA, getO, Sl.get?, store, bindF, bind1, bindL, storeL, bopD, copD, truD, b1D, b2D, idxD, slcD, augD, putC, isBox, isL, isC, getAll, Ah.get, refsOf, valsOf, putBack, outs, isX, isiD, optI, List.getElem?_cons_zero, List.getElem?_cons_succ, List.getElem?_nil, List.set_cons_zero, List.set_cons_succ, List.map_cons, List.map_nil, Option.map_some, Option.bind_some, Option.isSome_some, List.cons_append, List.nil_append, List.replicate_succ, List.replicate_zero, List.length_cons, List.length_nil, if_true, if_false, Bool.false_eq_true, reduceIte, ite_true, ite_false, ec4, e4, nd])).trans ?_
  refine (ss_nx (Γ1 := [.bo p4, .sh b4, .ow (.lst (yl [56]))]) rfl).trans ?_
  refine (ss_nx (Γ1 := [.bo p4, .sh b4, .ow (.lst (yl [56, 57]))]) rfl).trans ?_
  refine (ss_nx (Γ1 := [.bo p4, .sh b4, .ow (.lst (yl [56, 57, 58]))]) rfl).trans ?_
  refine (ss_nx (Γ1 := [.bo p4, .sh b4, .sh (.lst (yl [56, 57, 58]))]) ((s_iteF (ev_not (c := true) (ev_tv (st_caly (jx := 67) (by decide) (g4 kk c4 mc4 b4 m4).1 (fl4 c4 mc4 b4 m4) (by decide) (g4 kk c4 mc4 b4 m4).2)))).trans rfl)).trans ?_
  -- 5
  refine (ss_nx (Γ1 := [.bo p5, .sh b5, .sh (.lst (yl [56, 57, 58]))]) (by simp only [okl0, okl1, okl2, okl3, okl4, okl5, okl6, okl7, okl8, runDf, runCore, inSl, evSs, evS, evE, evP, evT, evTs, evO, evEs, evAs, evI, evX, Res.bind, liftO, Hd.get, getA, getO, Sl.get?, store, bindF, bind1, bindL, storeL, bopD, copD, truD, b1D, b2D, idxD, slcD, augD, putC, isBox, isL, isC, getAll, Ah.get, refsOf, valsOf, putBack, outs, isX, isiD, optI, List.getElem?_cons_zero, List.getElem?_cons_succ, List.getElem?_nil, List.set_cons_zero, List.set_cons_succ, List.map_cons, List.map_nil, Option.map_some, Option.bind_some, Option.isSome_some, List.cons_append, List.nil_append, List.replicate_succ, List.replicate_zero, List.length_cons, List.length_nil, if_true, if_false, Bool.false_eq_true, reduceIte, ite_true, ite_false, e5, nd])).trans ?_
  refine (ss_nx (Γ1 := [.bo p5, .sh b5, .ow (.lst (yl [59]))]) rfl).trans ?_
  refine (ss_nx (Γ1 := [.bo p5, .sh b5, .ow (.lst (yl [59, 60]))]) rfl).trans ?_
  refine (ss_nx (Γ1 := [.bo p5, .sh b5, .ow (.lst (yl [59, 60, 61]))]) rfl).trans ?_
  refine (ss_nx (Γ1 := [.bo p5, .sh b5, .sh (.lst (yl [59, 60, 61]))]) ((s_iteF (ev_not (c := true) (ev_tv (st_caly (jx := 68) (by decide) (g5 kk b5 m5).1 (fl5 b5 m5) (by decide) (g5 kk b5 m5).2)))).trans rfl)).trans ?_
  -- 6
  refine (ss_nx (Γ1 := [.bo p6, .sh b6, .sh (.lst (yl [59, 60, 61]))]) (by simp only [okl0, okl1, okl2, okl3, okl4, okl5, okl6, okl7, okl8, runDf, runCore, inSl, evSs, evS, evE, evP, evT, evTs, evO, evEs, evAs, evI, evX, Res.bind, liftO, Hd.get, getA, getO, Sl.get?, store, bindF, bind1, bindL, storeL, bopD, copD, truD, b1D, b2D, idxD, slcD, augD, putC, isBox, isL, isC, getAll, Ah.get, refsOf, valsOf, putBack, outs, isX, isiD, optI, List.getElem?_cons_zero, List.getElem?_cons_succ, List.getElem?_nil, List.set_cons_zero, List.set_cons_succ, List.map_cons, List.map_nil, Option.map_some, Option.bind_some, Option.isSome_some, List.cons_append, List.nil_append, List.replicate_succ, List.replicate_zero, List.length_cons, List.length_nil, if_true, if_false, Bool.false_eq_true, reduceIte, ite_true, ite_false, e6, nd])).trans ?_
  refine (ss_nx (Γ1 := [.bo p6, .sh b6, .ow (.lst (yl [62]))]) rfl).trans ?_
  exact ss_rt (e_ret (st_caly (jx := 63) (by decide) (g6 kk b6 m6).1 (fl6 b6 m6) (by decide) (g6 kk b6 m6).2))
end Dn.K69
end

section
set_option linter.all false
set_option autoImplicit false
set_option maxRecDepth 100000
set_option Elab.async false
set_option exponentiation.threshold 500000
/-! M69Q: the pot of a script, its cells, right at every lap. -/
namespace Dn.K69
open PySem PySem.Spec PyProof.Rows L2 Dn
theorem powA : powD 10 60 = some (10 ^ 60) := by kernel_rfl
theorem powB5 : powD (10 ^ 60) 5 = some ((10 ^ 60) ^ 5) := by kernel_rfl
theorem powC : powD 10 18 = some (10 ^ 18) := by kernel_rfl
theorem big300 : ((10 : Int) ^ 60) ^ 5 = ((10 ^ 300 : Nat) : Int) := by kernel_rfl
theorem pot_tail {own small place : Int} {n : Nat} (h : 0 ≤ own) (s0 : 0 ≤ small) (s1 : small < 2305843009213693921) (p0 : 0 ≤ place) (p1 : place ≤ 2) :
    fitMul small 70207 = true ∧ fitMul 13099 place = true ∧ fitMul (13099 * place) place = true :=
  ⟨Sm.fit (Sm.of (k := 62) (by omega) (by decide)) (Sm.of (k := 17) (by decide) (by decide)), Sm.fit (Sm.of (k := 17) (by decide) (by decide)) (Sm.of (k := 17) (by omega) (by decide)), Sm.fit (Sm.of (k := 17) (by omega) (by decide)) (Sm.of (k := 17) (by omega) (by decide))⟩
theorem abs0 {c : Int} : 0 ≤ (if c < 0 then -c else c) := by split <;> omega
theorem fit_own {a : Int} (h : 0 ≤ a) (b : Bool) : fitMul (a % (10 ^ 60) ^ 5) (if b = true then 1 else 0) = true := by
  rw [big300]
  have h1 := Int.emod_nonneg a (show ((10 ^ 300 : Nat) : Int) ≠ 0 by decide)
  have h2 := Int.emod_lt_of_pos a (show (0 : Int) < ((10 ^ 300 : Nat) : Int) by decide)
  refine Sm.fit (Sm.of (k := 1000) ?_ (by decide)) (Sm.of (k := 17) (by cases b <;> decide) (by decide))
  exact Nat.lt_of_lt_of_le (show (a % ((10 ^ 300 : Nat) : Int)).natAbs < 10 ^ 300 by omega) (by decide)
theorem own0 {a : Int} (b : Bool) : 0 ≤ a % (10 ^ 60) ^ 5 * (if b = true then 1 else 0) := by
  rw [big300]
  have h1 := Int.emod_nonneg a (show ((10 ^ 300 : Nat) : Int) ≠ 0 by decide)
  cases b
  · simp
  · simpa using h1
theorem intL_take {ns : List Int} {k : Nat} : intL ((ns.map D.int).take k) = some (ns.take k) := by rw [← List.map_take, intL_map]
theorem s_pot {n : Nat} {ns : List Int} {place : Nat} (hp : place ≤ 2) : ∃ p, callD Pr.dfOf (n + 1) 23 [.fz (ns.map .int), .int (place : Int)] = some (.ok p true []) ∧ Pot 0 p := by
  generalize hx : ns.map D.int = xs
  have mA := fun x : Int => modD_of (i := x) (j := 1000381) (by decide)
  have mS := fun x : Int => modD_of (i := x) (j := 2305843009213693921) (by decide)
  have mO := fun x : Int => modD_of (i := x) (j := (10 ^ 60) ^ 5) (by rw [big300]; decide)
  have go : ∀ c : Int, evE (callD Pr.dfOf n) (.ite (.val (.e (.cmp .lt (.pek 1) (.e (.bl1 .len (.pek 0)))))) (.idx (.pek 0) (.pek 1)) (.bin .add (.e (.bin .add (.e (.bin .mod (.e (.bl1 .int (.e (.bl1 .sum (.e (.slc (.pek 0) (.no) (.so (.e (.cst (.int 1)))))))))) (.e (.cst (.int 1000381))))) (.e (.bin .mul (.e (.cst (.int 5077))) (.pek 1))))) (.e (.cst (.int 3121))))) [.sh (.fz xs), .sh (.int (place : Int)), .no, .no, .no] = .ok (.int c, false) [.sh (.fz xs), .sh (.int (place : Int)), .no, .no, .no] →
      ∃ p, callD Pr.dfOf (n + 1) 23 [.fz xs, .int (place : Int)] = some (.ok p true []) ∧ Pot 0 p := fun c hc => by
    have q0 := Int.emod_nonneg c (show (2305843009213693921 : Int) ≠ 0 by decide)
    have q1 := Int.emod_lt_of_pos c (show (0 : Int) < 2305843009213693921 by decide)
    have ha := abs0 (c := c)
    generalize ea : (if c < 0 then -c else c) = a at ha
    obtain ⟨f1, f2, f3⟩ := pot_tail (own := a) (small := c % 2305843009213693921) (place := place) (n := 0) ha q0 q1 (by omega) (by omega)
    have f4 := fit_own ha (decide ((10 : Int) ^ 18 ≤ a))
    have o0 := own0 (a := a) (decide ((10 : Int) ^ 18 ≤ a))
    refine ⟨.lst [.int (a % (10 ^ 60) ^ 5 * (if decide ((10 : Int) ^ 18 ≤ a) = true then 1 else 0)), .int ((c % 2305843009213693921 * 70207 + 13099 * (place : Int) * (place : Int) + 2957) % 2305843009213693921), .int 0], ?_, _, _, _, rfl, o0, Int.emod_nonneg _ (by decide), ?_, Int.le_refl _, Int.le_refl _⟩
    · rw [callD_def (d := d__law_pot) rfl]
      refine run_rt (Γ0 := [.sh (.fz xs), .sh (.int (place : Int)), .no, .no, .no]) rfl rfl ?_ (Γ' := [.sh (.fz xs), .sh (.int (place : Int)), .sh (.int c), .sh (.int (a % (10 ^ 60) ^ 5 * (if decide ((10 : Int) ^ 18 ≤ a) = true then 1 else 0))), .sh (.int (c % 2305843009213693921))]) rfl
      refine (ss_nx (Γ1 := [.sh (.fz xs), .sh (.int (place : Int)), .sh (.int c), .no, .no]) (e_asgN hc rfl)).trans ?_
      refine (ss_nx (Γ1 := [.sh (.fz xs), .sh (.int (place : Int)), .sh (.int c), .sh (.int (a % (10 ^ 60) ^ 5 * (if decide ((10 : Int) ^ 18 ≤ a) = true then 1 else 0))), .no]) (by simp only [okl0, okl1, okl2, okl3, okl4, okl5, okl6, okl7, okl8, runDf, runCore, inSl, evSs, evS, evE, evP, evT, evTs, evO, evEs, evAs, evI, evX, Res.bind, liftO, Hd.get, getA, getO, Sl.get?, store, bindF, bind1, bindL, storeL, bopD, copD, truD, b1D, b2D, idxD, slcD, augD, putC, isBox, isL, isC, getAll, Ah.get, refsOf, valsOf, putBack, outs, isX, isiD, optI, List.getElem?_cons_zero, List.getElem?_cons_succ, List.getElem?_nil, List.set_cons_zero, List.set_cons_succ, List.map_cons, List.map_nil, Option.map_some, Option.bind_some, Option.isSome_some, List.cons_append, List.nil_append, List.replicate_succ, List.replicate_zero, List.length_cons, List.length_nil, if_true, if_false, Bool.false_eq_true, reduceIte, ite_true, ite_false, powA, powB5, powC, ea, mO, f4])).trans ?_
      simp only [okl0, okl1, okl2, okl3, okl4, okl5, okl6, okl7, okl8, runDf, runCore, inSl, evSs, evS, evE, evP, evT, evTs, evO, evEs, evAs, evI, evX, Res.bind, liftO, Hd.get, getA, getO, Sl.get?, store, bindF, bind1, bindL, storeL, bopD, copD, truD, b1D, b2D, idxD, slcD, augD, putC, isBox, isL, isC, getAll, Ah.get, refsOf, valsOf, putBack, outs, isX, isiD, optI, List.getElem?_cons_zero, List.getElem?_cons_succ, List.getElem?_nil, List.set_cons_zero, List.set_cons_succ, List.map_cons, List.map_nil, Option.map_some, Option.bind_some, Option.isSome_some, List.cons_append, List.nil_append, List.replicate_succ, List.replicate_zero, List.length_cons, List.length_nil, if_true, if_false, Bool.false_eq_true, reduceIte, ite_true, ite_false, mS, f1, f2, f3]
    · have := Int.emod_lt_of_pos (c % 2305843009213693921 * 70207 + 13099 * (place : Int) * (place : Int) + 2957) (show (0 : Int) < 2305843009213693921 by decide)
      omega
  by_cases h : place < ns.length
  · have hx1 : L2.atI xs (place : Int) = some (.int ns[place]) := by
      rw [atI_nat (by rw [← hx]; simpa using h), ← hx]
      simp [h]
    have hl : decide ((place : Int) < (xs.length : Int)) = true := decide_eq_true (by rw [← hx, List.length_map]; omega)
    exact go ns[place] (by simp only [okl0, okl1, okl2, okl3, okl4, okl5, okl6, okl7, okl8, runDf, runCore, inSl, evSs, evS, evE, evP, evT, evTs, evO, evEs, evAs, evI, evX, Res.bind, liftO, Hd.get, getA, getO, Sl.get?, store, bindF, bind1, bindL, storeL, bopD, copD, truD, b1D, b2D, idxD, slcD, augD, putC, isBox, isL, isC, getAll, Ah.get, refsOf, valsOf, putBack, outs, isX, isiD, optI, List.getElem?_cons_zero, List.getElem?_cons_succ, List.getElem?_nil, List.set_cons_zero, List.set_cons_succ, List.map_cons, List.map_nil, Option.map_some, Option.bind_some, Option.isSome_some, List.cons_append, List.nil_append, List.replicate_succ, List.replicate_zero, List.length_cons, List.length_nil, if_true, if_false, Bool.false_eq_true, reduceIte, ite_true, ite_false, hl, hx1])
  · have hl : decide ((place : Int) < (xs.length : Int)) = false := decide_eq_false (by rw [← hx, List.length_map]; omega)
    have hc : cutD xs none (some 1) = xs.take 1 := cut_to (s := 1)
    have hi : intL (xs.take 1) = some (ns.take 1) := by rw [← hx]; exact intL_take
    have f5 : fitMul 5077 (place : Int) = true := Sm.fit (Sm.of (k := 17) (by decide) (by decide)) (Sm.of (k := 17) (by omega) (by decide))
    exact go ((ns.take 1).sum % 1000381 + 5077 * (place : Int) + 3121) (by simp only [okl0, okl1, okl2, okl3, okl4, okl5, okl6, okl7, okl8, runDf, runCore, inSl, evSs, evS, evE, evP, evT, evTs, evO, evEs, evAs, evI, evX, Res.bind, liftO, Hd.get, getA, getO, Sl.get?, store, bindF, bind1, bindL, storeL, bopD, copD, truD, b1D, b2D, idxD, slcD, augD, putC, isBox, isL, isC, getAll, Ah.get, refsOf, valsOf, putBack, outs, isX, isiD, optI, List.getElem?_cons_zero, List.getElem?_cons_succ, List.getElem?_nil, List.set_cons_zero, List.set_cons_succ, List.map_cons, List.map_nil, Option.map_some, Option.bind_some, Option.isSome_some, List.cons_append, List.nil_append, List.replicate_succ, List.replicate_zero, List.length_cons, List.length_nil, if_true, if_false, Bool.false_eq_true, reduceIte, ite_true, ite_false, hl, hc, hi, mA, f5])
theorem s_cells {n : Nat} {xs : List D} : ∃ kk : Nat, (kk = 1 ∨ kk = 2 ∨ kk = 3) ∧ callD Pr.dfOf (n + 1) 26 [.fz xs, .int 3] = some (.ok (.lst (rangeD 0 (kk : Int))) true []) := by
  have go : ∀ kk : Nat, (kk = 1 ∨ kk = 2 ∨ kk = 3) → evE (callD Pr.dfOf n) (.bl2 .max (.e (.cst (.int 1))) (.e (.bl2 .min (.pek 1) (.e (.bl1 .len (.pek 0)))))) [.sh (.fz xs), .sh (.int 3)] = .ok (.int (kk : Int), false) [.sh (.fz xs), .sh (.int 3)] →
      ∃ kk : Nat, (kk = 1 ∨ kk = 2 ∨ kk = 3) ∧ callD Pr.dfOf (n + 1) 26 [.fz xs, .int 3] = some (.ok (.lst (rangeD 0 (kk : Int))) true []) := fun kk hk h => by
    refine ⟨kk, hk, ?_⟩
    rw [callD_def (d := d__law_cells) rfl]
    refine run_rt (Γ0 := [.sh (.fz xs), .sh (.int 3)]) rfl rfl ?_ (Γ' := [.sh (.fz xs), .sh (.int 3)]) rfl
    refine ss_rt (e_ret ?_)
    rw [evE, ev_rng1 (k := kk) (ev_P h) rfl (by omega)]
    rcases hk with rfl | rfl | rfl <;> rfl
  by_cases h1 : xs.length ≤ 1
  · refine go 1 (by simp) ?_
    have a1 : ((xs.length : Int) < 3) := by omega
    have a2 : ¬ ((xs.length : Int) > 1) := by omega
    simp only [okl0, okl1, okl2, okl3, okl4, okl5, okl6, okl7, okl8, runDf, runCore, inSl, evSs, evS, evE, evP, evT, evTs, evO, evEs, evAs, evI, evX, Res.bind, liftO, Hd.get, getA, getO, Sl.get?, store, bindF, bind1, bindL, storeL, bopD, copD, truD, b1D, b2D, idxD, slcD, augD, putC, isBox, isL, isC, getAll, Ah.get, refsOf, valsOf, putBack, outs, isX, isiD, optI, List.getElem?_cons_zero, List.getElem?_cons_succ, List.getElem?_nil, List.set_cons_zero, List.set_cons_succ, List.map_cons, List.map_nil, Option.map_some, Option.bind_some, Option.isSome_some, List.cons_append, List.nil_append, List.replicate_succ, List.replicate_zero, List.length_cons, List.length_nil, if_true, if_false, Bool.false_eq_true, reduceIte, ite_true, ite_false, b2D, a1, a2]
    rfl
  · by_cases h2 : xs.length = 2
    · refine go 2 (by simp) ?_
      simp only [okl0, okl1, okl2, okl3, okl4, okl5, okl6, okl7, okl8, runDf, runCore, inSl, evSs, evS, evE, evP, evT, evTs, evO, evEs, evAs, evI, evX, Res.bind, liftO, Hd.get, getA, getO, Sl.get?, store, bindF, bind1, bindL, storeL, bopD, copD, truD, b1D, b2D, idxD, slcD, augD, putC, isBox, isL, isC, getAll, Ah.get, refsOf, valsOf, putBack, outs, isX, isiD, optI, List.getElem?_cons_zero, List.getElem?_cons_succ, List.getElem?_nil, List.set_cons_zero, List.set_cons_succ, List.map_cons, List.map_nil, Option.map_some, Option.bind_some, Option.isSome_some, List.cons_append, List.nil_append, List.replicate_succ, List.replicate_zero, List.length_cons, List.length_nil, if_true, if_false, Bool.false_eq_true, reduceIte, ite_true, ite_false, b2D, h2]
      rfl
    · refine go 3 (by simp) ?_
      have a1 : ¬ ((xs.length : Int) < 3) := by omega
      simp only [okl0, okl1, okl2, okl3, okl4, okl5, okl6, okl7, okl8, runDf, runCore, inSl, evSs, evS, evE, evP, evT, evTs, evO, evEs, evAs, evI, evX, Res.bind, liftO, Hd.get, getA, getO, Sl.get?, store, bindF, bind1, bindL, storeL, bopD, copD, truD, b1D, b2D, idxD, slcD, augD, putC, isBox, isL, isC, getAll, Ah.get, refsOf, valsOf, putBack, outs, isX, isiD, optI, List.getElem?_cons_zero, List.getElem?_cons_succ, List.getElem?_nil, List.set_cons_zero, List.set_cons_succ, List.map_cons, List.map_nil, Option.map_some, Option.bind_some, Option.isSome_some, List.cons_append, List.nil_append, List.replicate_succ, List.replicate_zero, List.length_cons, List.length_nil, if_true, if_false, Bool.false_eq_true, reduceIte, ite_true, ite_false, b2D, a1]
      rfl
/-- the drawn errors -/
def ers : List D := [.tup [.int 1, .int 10], .tup [.int 1, .int 20], .tup [.int 1, .int 2], .tup [.int 9, .int 10], .tup [.int 1, .int 3]]
theorem ers_ok : ∀ d ∈ ers, ∃ e0 e1 : Int, d = .tup [.int e0, .int e1] ∧ Er e0 e1 := by
  intro d hd
  simp only [ers, List.mem_cons, List.not_mem_nil, or_false] at hd
  rcases hd with rfl | rfl | rfl | rfl | rfl <;> exact ⟨_, _, rfl, ⟨⟨by decide, by decide, by decide, by decide, by decide⟩, by decide, by decide⟩⟩
def three (l : List Sl) : Prop := l = [.no, .no, .no] ∨ ∃ a b c, l = [.sh a, .sh b, .sh c]
theorem lap {n k : Nat} {p : D} {i : Int} {l : List Sl} (hn : 13 ≤ n) (hp : Pot k p) (hk : k ≤ 800000) (hl : three l) :
    ∃ p' l', three l' ∧ Pot (k + 13) p' ∧ evSs (callD Pr.dfOf n) (.cons (.asg (.nm 2) (.bl1 .int (.e (.bin .add (.e (.cst (.int 1))) (.e (.cal 24 (.ref 0 (.val (.cst (.int 9)) (.nil))))))))) (.cons (.par [3, 4] (.cons (.bl1 .int (.e (.cal 24 (.ref 0 (.val (.bin .add (.pek 2) (.e (.cst (.int 1)))) (.nil)))))) (.cons (.cal 25 (.ref 0 (.val (.lst (.cons (.tup (.cons (.cst (.int 1)) (.cons (.cst (.int 10)) (.nil)))) (.cons (.tup (.cons (.cst (.int 1)) (.cons (.cst (.int 20)) (.nil)))) (.cons (.tup (.cons (.cst (.int 1)) (.cons (.cst (.int 2)) (.nil)))) (.cons (.tup (.cons (.cst (.int 9)) (.cons (.cst (.int 10)) (.nil)))) (.cons (.tup (.cons (.cst (.int 1)) (.cons (.cst (.int 3)) (.nil)))) (.nil))))))) (.nil)))) (.nil)))) (.cons (.ite (.not_ (.val (.e (.cal 44 (.ref 0 (.val (.var 2) (.val (.var 3) (.val (.var 4) (.val (.cal 40 (.ref 0 (.nil))) (.nil)))))))))) (.cons (.ret (.cst (.bl false))) (.nil)) (.nil)) (.cons (.ite (.not_ (.val (.e (.cal 45 (.ref 0 (.nil)))))) (.cons (.ret (.cst (.bl false))) (.nil)) (.nil)) (.nil)))))
      (.bo p :: .sh (.int i) :: l) = .nx (.bo p' :: .sh (.int i) :: l') := by
  obtain ⟨r, p1, e1, r0, r1, q1⟩ := s_take (n := n) (by omega) hp (by omega) (u := 9) (by decide) (by decide)
  obtain ⟨m, rfl⟩ : ∃ m : Nat, r = m := ⟨r.toNat, by omega⟩
  have em : (1 : Int) + (m : Int) = ((1 + m : Nat) : Int) := by omega
  obtain ⟨s, p2, e2, s0, s1, q2⟩ := s_take (n := n) (by omega) q1 (by omega) (u := ((1 + m : Nat) : Int) + 1) (by omega) (by omega)
  obtain ⟨s, rfl⟩ : ∃ t : Nat, s = t := ⟨s.toNat, by omega⟩
  obtain ⟨d, p3, hd, e3, q3⟩ := s_of (n := n) (xs := ers) (by omega) q2 (by omega) (by simp [ers]) (by simp [ers])
  obtain ⟨x0, x1, rfl, he⟩ := ers_ok d hd
  obtain ⟨t, b, p4, e4, hc, hb, q4⟩ := s_chance (n := n) (by omega) q3 (by omega)
  obtain ⟨p5, e5, q5⟩ := s_one_right (n := n) (m := 1 + m) (s := s) (by omega) q4 (by omega) (by omega) (by omega) (by omega) he hc hb
  obtain ⟨p6, e6, q6⟩ := s_refused (n := n) (by omega) q5 (by omega)
  refine ⟨p6, [.sh (.int ((1 + m : Nat) : Int)), .sh (.int s), .sh (.tup [.int x0, .int x1])], .inr ⟨_, _, _, rfl⟩, q6.mono (by omega), ?_⟩
  have nd : (List.Nodup [0] : Prop) := by decide
  unfold ers at e3
  rcases hl with rfl | ⟨_, _, _, rfl⟩
  · simp only [okl0, okl1, okl2, okl3, okl4, okl5, okl6, okl7, okl8, runDf, runCore, inSl, evSs, evS, evE, evP, evT, evTs, evO, evEs, evAs, evI, evX, Res.bind, liftO, Hd.get, getA, getO, Sl.get?, store, bindF, bind1, bindL, storeL, bopD, copD, truD, b1D, b2D, idxD, slcD, augD, putC, isBox, isL, isC, getAll, Ah.get, refsOf, valsOf, putBack, outs, isX, isiD, optI, List.getElem?_cons_zero, List.getElem?_cons_succ, List.getElem?_nil, List.set_cons_zero, List.set_cons_succ, List.map_cons, List.map_nil, Option.map_some, Option.bind_some, Option.isSome_some, List.cons_append, List.nil_append, List.replicate_succ, List.replicate_zero, List.length_cons, List.length_nil, if_true, if_false, Bool.false_eq_true, reduceIte, ite_true, ite_false, e1, em, e2, e3, e4, e5, e6, nd, Bool.not_true]
  · simp only [okl0, okl1, okl2, okl3, okl4, okl5, okl6, okl7, okl8, runDf, runCore, inSl, evSs, evS, evE, evP, evT, evTs, evO, evEs, evAs, evI, evX, Res.bind, liftO, Hd.get, getA, getO, Sl.get?, store, bindF, bind1, bindL, storeL, bopD, copD, truD, b1D, b2D, idxD, slcD, augD, putC, isBox, isL, isC, getAll, Ah.get, refsOf, valsOf, putBack, outs, isX, isiD, optI, List.getElem?_cons_zero, List.getElem?_cons_succ, List.getElem?_nil, List.set_cons_zero, List.set_cons_succ, List.map_cons, List.map_nil, Option.map_some, Option.bind_some, Option.isSome_some, List.cons_append, List.nil_append, List.replicate_succ, List.replicate_zero, List.length_cons, List.length_nil, if_true, if_false, Bool.false_eq_true, reduceIte, ite_true, ite_false, e1, em, e2, e3, e4, e5, e6, nd, Bool.not_true]
theorem s_right {n : Nat} {p : D} (hn : 14 ≤ n) (hp : Pot 0 p) : ∃ p', callD Pr.dfOf n 46 [p] = some (.ok (.bl true) false [p']) := by
  obtain ⟨n, rfl, hn'⟩ := up hn
  obtain ⟨p1, l1, t1, q1, e1⟩ := lap (n := n) (i := 0) (l := [.no, .no, .no]) hn' hp (by omega) (.inl rfl)
  obtain ⟨p2, l2, t2, q2, e2⟩ := lap (n := n) (i := 1) hn' q1 (by omega) t1
  obtain ⟨p3, l3, t3, q3, e3⟩ := lap (n := n) (i := 2) hn' q2 (by omega) t2
  obtain ⟨p4, l4, t4, q4, e4⟩ := lap (n := n) (i := 3) hn' q3 (by omega) t3
  refine ⟨p4, ?_⟩
  rw [callD_def (d := d__law_right) rfl]
  refine run_rt (Γ0 := [.bo p, .no, .no, .no, .no]) rfl rfl ?_ (Γ' := .bo p4 :: .sh (.int 3) :: l4) rfl
  refine (ss_nx (Γ1 := .bo p4 :: .sh (.int 3) :: l4) (e_for (Γ1 := [.bo p, .no, .no, .no, .no]) (xs := [.int 0, .int 1, .int 2, .int 3]) rfl ?_)).trans rfl
  unfold forL
  rw [show bind1 [.bo p, .no, .no, .no, .no] (.nm 1) (.int 0) = some (.bo p :: .sh (.int 0) :: [.no, .no, .no]) from rfl]
  dsimp only
  rw [e1]
  dsimp only
  unfold forL
  rw [show bind1 (.bo p1 :: .sh (.int 0) :: l1) (.nm 1) (.int 1) = some (.bo p1 :: .sh (.int 1) :: l1) from rfl]
  dsimp only
  rw [e2]
  dsimp only
  unfold forL
  rw [show bind1 (.bo p2 :: .sh (.int 1) :: l2) (.nm 1) (.int 2) = some (.bo p2 :: .sh (.int 2) :: l2) from rfl]
  dsimp only
  rw [e3]
  dsimp only
  unfold forL
  rw [show bind1 (.bo p3 :: .sh (.int 2) :: l3) (.nm 1) (.int 3) = some (.bo p3 :: .sh (.int 3) :: l3) from rfl]
  dsimp only
  rw [e4]
  rfl
end Dn.K69
end

section
set_option linter.all false
set_option autoImplicit false
set_option maxRecDepth 100000
set_option Elab.async false
set_option exponentiation.threshold 500000
/-! M69R: the law of k69. -/
namespace Dn.K69
open PySem PySem.Spec PyProof.Rows L2 Dn
def rowsD : D := .lst [.tup [.int 1, .int 1, .int 0], .tup [.int 1, .int 0, .int 1], .tup [.int 0, .int 1, .int 1], .tup [.int 1, .int 1, .int 1]]
theorem ta : callD Pr.dfOf 30 20 [.int 2, .int 2, .tup [.int 1, .int 10], .str "low", .int 100] = some (.ok (.tup [.tup [.int 11, .int 50], .tup [.int 23, .int 100]]) false []) := by kernel_rfl
theorem tb : callD Pr.dfOf 30 21 [.int 2, .tup [.int 1, .int 10], .tup [.int 1, .int 5]] = some (.ok (.tup [.int 1, .int 25]) false []) := by kernel_rfl
theorem td : callD Pr.dfOf 30 14 [.int 3, .int 2, .tup [.int 1, .int 3]] = some (.ok (.tup [.int 7, .int 27]) false []) := by kernel_rfl
theorem te : callD Pr.dfOf 30 15 [.int 60, .int 60, .tup [.int 1, .int 7]] = some (.ok (.tup [.int 1, .int 1]) false []) := by kernel_rfl
theorem tf : callD Pr.dfOf 30 20 [.int 14, .int 7, .tup [.int 1, .int 20], .str "high", .int 1000] = some (.ok (.tup [.tup [.int 769, .int 1000], .tup [.int 77, .int 100]]) false []) := by kernel_rfl
theorem th : callD Pr.dfOf 30 18 [.int 60, .int 30, .tup [.int 1, .int 20], .tup [.int 1, .int 2]] = some (.ok (.bl true) false []) := by kernel_rfl
theorem tk : callD Pr.dfOf 30 18 [.int 60, .int 60, .tup [.int 1, .int 20], .tup [.int 1, .int 2]] = some (.ok (.bl false) false []) := by kernel_rfl
theorem er20 : Er 1 20 := ⟨⟨by decide, by decide, by decide, by decide, by decide⟩, by decide, by decide⟩
theorem ii : inS 769 (1000 - 769) 14 7 (1000 ^ 14) 1 20 = true := by kernel_rfl
theorem ij : inS 77 (100 - 77) 14 7 (100 ^ 14) 1 20 = false := by kernel_rfl
theorem ti : callD Pr.dfOf 30 42 [.int 14, .int 7, .tup [.int 1, .int 20], .tup [.int 769, .int 1000]] = some (.ok (.bl true) false []) := by
  have h := s_law_in (n := 30) (m := 14) (s := 7) (t := 769) (b := 1000) (by decide) ⟨by decide, by decide, by decide, by decide, by decide⟩ (by decide) (by decide) (by decide) er20
  rw [ii] at h
  exact h
theorem tj : callD Pr.dfOf 30 42 [.int 14, .int 7, .tup [.int 1, .int 20], .tup [.int 77, .int 100]] = some (.ok (.bl false) false []) := by
  have h := s_law_in (n := 30) (m := 14) (s := 7) (t := 77) (b := 100) (by decide) ⟨by decide, by decide, by decide, by decide, by decide⟩ (by decide) (by decide) (by decide) er20
  rw [ij] at h
  exact h
theorem tl' {m s f : Nat} {i j k : Int} {z : Str} (h1 : (m : Int) = i) (h2 : (s : Int) = j) (h3 : (f : Int) = k) (h4 : sideS true = z) (hm1 : 1 ≤ m) (hm : m ≤ 60) (hs : s ≤ m) (hf : 1 ≤ f) (hl : f ≤ 1000000) : ∃ d, callD Pr.dfOf 30 20 [.int i, .int j, .tup [.int 1, .int 20], .str z, .int k] = some (.ok d false []) ∧ callD Pr.dfOf 30 43 [.int i, .int j, .tup [.int 1, .int 20], .str z, .int k, d] = some (.ok (.bl true) false []) := by
  subst h1 h2 h3 h4
  obtain ⟨d, h1, h2⟩ := s_end (n := 30) (low := true) (by decide) hm1 hm hs er20 hf hl
  exact ⟨d, h1, s_end_right (n := 30) (by decide) hm1 hm hs er20 hf hl h2⟩
theorem tl : ∃ d, callD Pr.dfOf 30 20 [.int 24, .int 7, .tup [.int 1, .int 20], .str "low", .int 100] = some (.ok d false []) ∧ callD Pr.dfOf 30 43 [.int 24, .int 7, .tup [.int 1, .int 20], .str "low", .int 100, d] = some (.ok (.bl true) false []) := tl' (m := 24) (s := 7) (f := 100) rfl rfl rfl rfl (by decide) (by decide) (by decide) (by decide) (by decide)
theorem ua {x : D} : evS (callD Pr.dfOf 30) (.asg (.nm 1) (.cmp1 (.var 6) (.nm 6) (.seq (.cal 39 (.val (.cst (.int 3)) (.nil)))) (.one (.val (.e (.cmp .ge (.e (.bl1 .sum (.pek 6))) (.e (.cst (.int 2))))))) [6] 8)) [.sh x, .no, .no, .no, .no, .no, .no, .no] = .nx [.sh x, .ow rowsD, .no, .no, .no, .no, .no, .no] := by kernel_rfl
theorem ub {x : D} : evS (callD Pr.dfOf 30) (.asg (.nm 2) (.cal 33 (.val (.cmp1 (.cal 31 (.val (.cal 38 (.val (.tup (.cons (.cst (.int 1)) (.cons (.cst (.int 3)) (.nil)))) (.val (.bl1 .sum (.pek 6)) (.nil)))) (.val (.cal 38 (.val (.tup (.cons (.cst (.int 2)) (.cons (.cst (.int 3)) (.nil)))) (.val (.bin .sub (.e (.cst (.int 3))) (.e (.bl1 .sum (.pek 6)))) (.nil)))) (.nil)))) (.nm 6) (.seq (.var 1)) (.nil) [6] 8) (.nil)))) [.sh x, .ow rowsD, .no, .no, .no, .no, .no, .no] = .nx [.sh x, .sh rowsD, .sh (.tup [.int 7, .int 27]), .no, .no, .no, .no, .no] := by kernel_rfl
theorem qa : eqD (.tup [.tup [.int 11, .int 50], .tup [.int 23, .int 100]]) (.tup [.tup [.int 11, .int 50], .tup [.int 23, .int 100]]) = some true := by kernel_rfl
theorem qb : eqD (.tup [.int 1, .int 25]) (.tup [.int 1, .int 25]) = some true := by kernel_rfl
theorem qd : eqD (.tup [.int 7, .int 27]) (.tup [.int 7, .int 27]) = some true := by kernel_rfl
theorem qe : eqD (.tup [.int 1, .int 1]) (.tup [.int 1, .int 1]) = some true := by kernel_rfl
theorem po3 : powD 10 3 = some 1000 := by decide
abbrev E5 (x toldD : D) : Env := [.sh x, .sh rowsD, .sh (.tup [.int 7, .int 27]), .sh (.tup [.int 769, .int 1000]), .sh (.tup [.int 77, .int 100]), .sh toldD, .no, .no]
theorem s_all {ns : List Int} {toldD : D} {Γ : Env} (hΓ : Γ = E5 (.fz (ns.map .int)) toldD) :
    evE (callD Pr.dfOf 30) (.cmp1 (.calT 46 (.cal 23 (.val (.var 0) (.val (.var 7) (.nil))))) (.nm 7) (.seq (.cal 26 (.val (.var 0) (.val (.cst (.int 3)) (.nil))))) (.nil) [7] 8) Γ = .ok (.lst [.bl true], true) Γ ∨
    evE (callD Pr.dfOf 30) (.cmp1 (.calT 46 (.cal 23 (.val (.var 0) (.val (.var 7) (.nil))))) (.nm 7) (.seq (.cal 26 (.val (.var 0) (.val (.cst (.int 3)) (.nil))))) (.nil) [7] 8) Γ = .ok (.lst [.bl true, .bl true], true) Γ ∨
    evE (callD Pr.dfOf 30) (.cmp1 (.calT 46 (.cal 23 (.val (.var 0) (.val (.var 7) (.nil))))) (.nm 7) (.seq (.cal 26 (.val (.var 0) (.val (.cst (.int 3)) (.nil))))) (.nil) [7] 8) Γ = .ok (.lst [.bl true, .bl true, .bl true], true) Γ := by
  subst hΓ
  obtain ⟨kk, hk, hc⟩ := s_cells (n := 29) (xs := ns.map D.int)
  have hi : evI (callD Pr.dfOf 30) (.seq (.cal 26 (.val (.var 0) (.val (.cst (.int 3)) (.nil))))) (E5 (.fz (ns.map .int)) toldD) = .ok (rangeD 0 (kk : Int)) (E5 (.fz (ns.map .int)) toldD) :=
    ev_seqL (fr := true) (by simp only [E5, okl0, okl1, okl2, okl3, okl4, okl5, okl6, okl7, okl8, runDf, runCore, inSl, evSs, evS, evE, evP, evT, evTs, evO, evEs, evAs, evI, evX, Res.bind, liftO, Hd.get, getA, getO, Sl.get?, store, bindF, bind1, bindL, storeL, bopD, copD, truD, b1D, b2D, idxD, slcD, augD, putC, isBox, isL, isC, getAll, Ah.get, refsOf, valsOf, putBack, outs, isX, isiD, optI, List.getElem?_cons_zero, List.getElem?_cons_succ, List.getElem?_nil, List.set_cons_zero, List.set_cons_succ, List.map_cons, List.map_nil, Option.map_some, Option.bind_some, Option.isSome_some, List.cons_append, List.nil_append, List.replicate_succ, List.replicate_zero, List.length_cons, List.length_nil, if_true, if_false, Bool.false_eq_true, reduceIte, ite_true, ite_false, hc, List.nodup_nil])
  have cm := cmp_map (Γ2 := (E5 (.fz (ns.map .int)) toldD)) (elt := .calT 46 (.cal 23 (.val (.var 0) (.val (.var 7) (.nil))))) (g := .nm 7) (own := [7]) (n := 8) hi rfl (fun _ => .bl true) (by rcases hk with rfl | rfl | rfl <;> decide) rfl (fun x hx => by
    obtain ⟨i, hi2, rfl⟩ : ∃ i : Nat, i ≤ 2 ∧ x = .int (i : Int) := by
      obtain ⟨j, hj⟩ := List.mem_iff_getElem?.mp hx
      obtain ⟨h1, h2⟩ := rng_get hj
      exact ⟨j, by omega, h2⟩
    obtain ⟨p, e1, hp⟩ := s_pot (n := 29) (ns := ns) hi2
    obtain ⟨p', e2⟩ := s_right (n := 30) (by omega) hp
    refine ⟨[.sh (.fz (ns.map .int)), .sh rowsD, .sh (.tup [.int 7, .int 27]), .sh (.tup [.int 769, .int 1000]), .sh (.tup [.int 77, .int 100]), .sh toldD, .no, .sh (.int (i : Int))], false, [.sh (.fz (ns.map .int)), .sh rowsD, .sh (.tup [.int 7, .int 27]), .sh (.tup [.int 769, .int 1000]), .sh (.tup [.int 77, .int 100]), .sh toldD, .no, .sh (.int (i : Int))], rfl, ?_, rfl⟩
    simp only [okl0, okl1, okl2, okl3, okl4, okl5, okl6, okl7, okl8, runDf, runCore, inSl, evSs, evS, evE, evP, evT, evTs, evO, evEs, evAs, evI, evX, Res.bind, liftO, Hd.get, getA, getO, Sl.get?, store, bindF, bind1, bindL, storeL, bopD, copD, truD, b1D, b2D, idxD, slcD, augD, putC, isBox, isL, isC, getAll, Ah.get, refsOf, valsOf, putBack, outs, isX, isiD, optI, List.getElem?_cons_zero, List.getElem?_cons_succ, List.getElem?_nil, List.set_cons_zero, List.set_cons_succ, List.map_cons, List.map_nil, Option.map_some, Option.bind_some, Option.isSome_some, List.cons_append, List.nil_append, List.replicate_succ, List.replicate_zero, List.length_cons, List.length_nil, if_true, if_false, Bool.false_eq_true, reduceIte, ite_true, ite_false, e1, e2, List.nodup_nil])
  rw [cm]
  rcases hk with rfl | rfl | rfl
  · exact .inl rfl
  · exact .inr (.inl rfl)
  · exact .inr (.inr rfl)
theorem law_run {cf : CallF} {x toldD : D} (ta : cf 20 [.int 2, .int 2, .tup [.int 1, .int 10], .str "low", .int 100] = some (.ok (.tup [.tup [.int 11, .int 50], .tup [.int 23, .int 100]]) false [])) (tb : cf 21 [.int 2, .tup [.int 1, .int 10], .tup [.int 1, .int 5]] = some (.ok (.tup [.int 1, .int 25]) false [])) (td : cf 14 [.int 3, .int 2, .tup [.int 1, .int 3]] = some (.ok (.tup [.int 7, .int 27]) false [])) (te : cf 15 [.int 60, .int 60, .tup [.int 1, .int 7]] = some (.ok (.tup [.int 1, .int 1]) false [])) (tf : cf 20 [.int 14, .int 7, .tup [.int 1, .int 20], .str "high", .int 1000] = some (.ok (.tup [.tup [.int 769, .int 1000], .tup [.int 77, .int 100]]) false [])) (th : cf 18 [.int 60, .int 30, .tup [.int 1, .int 20], .tup [.int 1, .int 2]] = some (.ok (.bl true) false [])) (tk : cf 18 [.int 60, .int 60, .tup [.int 1, .int 20], .tup [.int 1, .int 2]] = some (.ok (.bl false) false [])) (ti : cf 42 [.int 14, .int 7, .tup [.int 1, .int 20], .tup [.int 769, .int 1000]] = some (.ok (.bl true) false [])) (tj : cf 42 [.int 14, .int 7, .tup [.int 1, .int 20], .tup [.int 77, .int 100]] = some (.ok (.bl false) false [])) (ua : evS (cf) (.asg (.nm 1) (.cmp1 (.var 6) (.nm 6) (.seq (.cal 39 (.val (.cst (.int 3)) (.nil)))) (.one (.val (.e (.cmp .ge (.e (.bl1 .sum (.pek 6))) (.e (.cst (.int 2))))))) [6] 8)) [.sh x, .no, .no, .no, .no, .no, .no, .no] = .nx [.sh x, .ow rowsD, .no, .no, .no, .no, .no, .no]) (ub : evS (cf) (.asg (.nm 2) (.cal 33 (.val (.cmp1 (.cal 31 (.val (.cal 38 (.val (.tup (.cons (.cst (.int 1)) (.cons (.cst (.int 3)) (.nil)))) (.val (.bl1 .sum (.pek 6)) (.nil)))) (.val (.cal 38 (.val (.tup (.cons (.cst (.int 2)) (.cons (.cst (.int 3)) (.nil)))) (.val (.bin .sub (.e (.cst (.int 3))) (.e (.bl1 .sum (.pek 6)))) (.nil)))) (.nil)))) (.nm 6) (.seq (.var 1)) (.nil) [6] 8) (.nil)))) [.sh x, .ow rowsD, .no, .no, .no, .no, .no, .no] = .nx [.sh x, .sh rowsD, .sh (.tup [.int 7, .int 27]), .no, .no, .no, .no, .no]) (tg : cf 20 [.int 24, .int 7, .tup [.int 1, .int 20], .str "low", .int 100] = some (.ok toldD false [])) (tl : cf 43 [.int 24, .int 7, .tup [.int 1, .int 20], .str "low", .int 100, toldD] = some (.ok (.bl true) false [])) (sa : evE cf (.cmp1 (.calT 46 (.cal 23 (.val (.var 0) (.val (.var 7) (.nil))))) (.nm 7) (.seq (.cal 26 (.val (.var 0) (.val (.cst (.int 3)) (.nil))))) (.nil) [7] 8) (E5 x toldD) = .ok (.lst [.bl true], true) (E5 x toldD) ∨ evE cf (.cmp1 (.calT 46 (.cal 23 (.val (.var 0) (.val (.var 7) (.nil))))) (.nm 7) (.seq (.cal 26 (.val (.var 0) (.val (.cst (.int 3)) (.nil))))) (.nil) [7] 8) (E5 x toldD) = .ok (.lst [.bl true, .bl true], true) (E5 x toldD) ∨ evE cf (.cmp1 (.calT 46 (.cal 23 (.val (.var 0) (.val (.var 7) (.nil))))) (.nm 7) (.seq (.cal 26 (.val (.var 0) (.val (.cst (.int 3)) (.nil))))) (.nil) [7] 8) (E5 x toldD) = .ok (.lst [.bl true, .bl true, .bl true], true) (E5 x toldD)) : runDf cf df_law [x] = some (.ok (.bl true) false []) := by
  refine run_rt (Γ0 := [.sh x, .no, .no, .no, .no, .no, .no, .no]) rfl rfl ?_ (Γ' := E5 x toldD) rfl
  refine (ss_nx (Γ1 := [.sh x, .no, .no, .no, .no, .no, .no, .no]) (by simp only [okl0, okl1, okl2, okl3, okl4, okl5, okl6, okl7, okl8, runDf, runCore, inSl, evSs, evS, evE, evP, evT, evTs, evO, evEs, evAs, evI, evX, Res.bind, liftO, Hd.get, getA, getO, Sl.get?, store, bindF, bind1, bindL, storeL, bopD, copD, truD, b1D, b2D, idxD, slcD, augD, putC, isBox, isL, isC, getAll, Ah.get, refsOf, valsOf, putBack, outs, isX, isiD, optI, List.getElem?_cons_zero, List.getElem?_cons_succ, List.getElem?_nil, List.set_cons_zero, List.set_cons_succ, List.map_cons, List.map_nil, Option.map_some, Option.bind_some, Option.isSome_some, List.cons_append, List.nil_append, List.replicate_succ, List.replicate_zero, List.length_cons, List.length_nil, if_true, if_false, Bool.false_eq_true, reduceIte, ite_true, ite_false, ta, tb, qa, qb, Bool.not_true, List.nodup_nil])).trans ?_
  refine (ss_nx ua).trans ?_
  refine (ss_nx ub).trans ?_
  refine (ss_nx (Γ1 := [.sh x, .sh rowsD, .sh (.tup [.int 7, .int 27]), .no, .no, .no, .no, .no]) (by simp only [okl0, okl1, okl2, okl3, okl4, okl5, okl6, okl7, okl8, runDf, runCore, inSl, evSs, evS, evE, evP, evT, evTs, evO, evEs, evAs, evI, evX, Res.bind, liftO, Hd.get, getA, getO, Sl.get?, store, bindF, bind1, bindL, storeL, bopD, copD, truD, b1D, b2D, idxD, slcD, augD, putC, isBox, isL, isC, getAll, Ah.get, refsOf, valsOf, putBack, outs, isX, isiD, optI, List.getElem?_cons_zero, List.getElem?_cons_succ, List.getElem?_nil, List.set_cons_zero, List.set_cons_succ, List.map_cons, List.map_nil, Option.map_some, Option.bind_some, Option.isSome_some, List.cons_append, List.nil_append, List.replicate_succ, List.replicate_zero, List.length_cons, List.length_nil, if_true, if_false, Bool.false_eq_true, reduceIte, ite_true, ite_false, td, te, qd, qe, Bool.not_true, List.nodup_nil])).trans ?_
  refine (ss_nx (Γ1 := [.sh x, .sh rowsD, .sh (.tup [.int 7, .int 27]), .sh (.tup [.int 769, .int 1000]), .sh (.tup [.int 77, .int 100]), .no, .no, .no]) (by simp only [okl0, okl1, okl2, okl3, okl4, okl5, okl6, okl7, okl8, runDf, runCore, inSl, evSs, evS, evE, evP, evT, evTs, evO, evEs, evAs, evI, evX, Res.bind, liftO, Hd.get, getA, getO, Sl.get?, store, bindF, bind1, bindL, storeL, bopD, copD, truD, b1D, b2D, idxD, slcD, augD, putC, isBox, isL, isC, getAll, Ah.get, refsOf, valsOf, putBack, outs, isX, isiD, optI, List.getElem?_cons_zero, List.getElem?_cons_succ, List.getElem?_nil, List.set_cons_zero, List.set_cons_succ, List.map_cons, List.map_nil, Option.map_some, Option.bind_some, Option.isSome_some, List.cons_append, List.nil_append, List.replicate_succ, List.replicate_zero, List.length_cons, List.length_nil, if_true, if_false, Bool.false_eq_true, reduceIte, ite_true, ite_false, po3, tf, List.nodup_nil])).trans ?_
  refine (ss_nx (Γ1 := [.sh x, .sh rowsD, .sh (.tup [.int 7, .int 27]), .sh (.tup [.int 769, .int 1000]), .sh (.tup [.int 77, .int 100]), .no, .no, .no]) (by simp only [okl0, okl1, okl2, okl3, okl4, okl5, okl6, okl7, okl8, runDf, runCore, inSl, evSs, evS, evE, evP, evT, evTs, evO, evEs, evAs, evI, evX, Res.bind, liftO, Hd.get, getA, getO, Sl.get?, store, bindF, bind1, bindL, storeL, bopD, copD, truD, b1D, b2D, idxD, slcD, augD, putC, isBox, isL, isC, getAll, Ah.get, refsOf, valsOf, putBack, outs, isX, isiD, optI, List.getElem?_cons_zero, List.getElem?_cons_succ, List.getElem?_nil, List.set_cons_zero, List.set_cons_succ, List.map_cons, List.map_nil, Option.map_some, Option.bind_some, Option.isSome_some, List.cons_append, List.nil_append, List.replicate_succ, List.replicate_zero, List.length_cons, List.length_nil, if_true, if_false, Bool.false_eq_true, reduceIte, ite_true, ite_false, ti, tj, Bool.not_true, List.nodup_nil])).trans ?_
  refine (ss_nx (Γ1 := [.sh x, .sh rowsD, .sh (.tup [.int 7, .int 27]), .sh (.tup [.int 769, .int 1000]), .sh (.tup [.int 77, .int 100]), .no, .no, .no]) (by simp only [okl0, okl1, okl2, okl3, okl4, okl5, okl6, okl7, okl8, runDf, runCore, inSl, evSs, evS, evE, evP, evT, evTs, evO, evEs, evAs, evI, evX, Res.bind, liftO, Hd.get, getA, getO, Sl.get?, store, bindF, bind1, bindL, storeL, bopD, copD, truD, b1D, b2D, idxD, slcD, augD, putC, isBox, isL, isC, getAll, Ah.get, refsOf, valsOf, putBack, outs, isX, isiD, optI, List.getElem?_cons_zero, List.getElem?_cons_succ, List.getElem?_nil, List.set_cons_zero, List.set_cons_succ, List.map_cons, List.map_nil, Option.map_some, Option.bind_some, Option.isSome_some, List.cons_append, List.nil_append, List.replicate_succ, List.replicate_zero, List.length_cons, List.length_nil, if_true, if_false, Bool.false_eq_true, reduceIte, ite_true, ite_false, th, tk, Bool.not_true, List.nodup_nil, decide_true, Bool.not_false])).trans ?_
  refine (ss_nx (Γ1 := E5 x toldD) (by simp only [E5, okl0, okl1, okl2, okl3, okl4, okl5, okl6, okl7, okl8, runDf, runCore, inSl, evSs, evS, evE, evP, evT, evTs, evO, evEs, evAs, evI, evX, Res.bind, liftO, Hd.get, getA, getO, Sl.get?, store, bindF, bind1, bindL, storeL, bopD, copD, truD, b1D, b2D, idxD, slcD, augD, putC, isBox, isL, isC, getAll, Ah.get, refsOf, valsOf, putBack, outs, isX, isiD, optI, List.getElem?_cons_zero, List.getElem?_cons_succ, List.getElem?_nil, List.set_cons_zero, List.set_cons_succ, List.map_cons, List.map_nil, Option.map_some, Option.bind_some, Option.isSome_some, List.cons_append, List.nil_append, List.replicate_succ, List.replicate_zero, List.length_cons, List.length_nil, if_true, if_false, Bool.false_eq_true, reduceIte, ite_true, ite_false, tg, List.nodup_nil])).trans ?_
  refine (ss_nx (Γ1 := E5 x toldD) (by simp only [E5, okl0, okl1, okl2, okl3, okl4, okl5, okl6, okl7, okl8, runDf, runCore, inSl, evSs, evS, evE, evP, evT, evTs, evO, evEs, evAs, evI, evX, Res.bind, liftO, Hd.get, getA, getO, Sl.get?, store, bindF, bind1, bindL, storeL, bopD, copD, truD, b1D, b2D, idxD, slcD, augD, putC, isBox, isL, isC, getAll, Ah.get, refsOf, valsOf, putBack, outs, isX, isiD, optI, List.getElem?_cons_zero, List.getElem?_cons_succ, List.getElem?_nil, List.set_cons_zero, List.set_cons_succ, List.map_cons, List.map_nil, Option.map_some, Option.bind_some, Option.isSome_some, List.cons_append, List.nil_append, List.replicate_succ, List.replicate_zero, List.length_cons, List.length_nil, if_true, if_false, Bool.false_eq_true, reduceIte, ite_true, ite_false, tl, Bool.not_true, List.nodup_nil])).trans ?_
  refine ss_rt (e_ret ?_)
  rcases sa with h | h | h
  · exact ev_bl1 h rfl
  · exact ev_bl1 h rfl
  · exact ev_bl1 h rfl
theorem law_holds (ns : List Int) : callD Pr.dfOf (30 + 1) 47 [scr ns] = some (.ok (.bl true) false []) := by
  obtain ⟨toldD, tg, tl⟩ := tl
  rw [callD_def (d := d_law) rfl]
  exact law_run ta tb td te tf th tk ti tj ua ub tg tl (s_all rfl)
end Dn.K69
theorem PySem.Challenge.cw_orderedahead_k69_whole_sharp_stretches_holds : PySem.Challenge.rw_orderedahead_k69_whole_sharp_stretches.Holds :=
  Dn.K69.holds fun ns _ _ => Dn.K69.law_holds ns
end
