import PyProof.Rows.All
import Wide.All
import OpenK.AllK
import Wide.FinOn
import KE.SortData
import HandS.ForMost
import HandS.ForExc
import HandS.TupAny
import HandS.TupLe
import HandS.TupMul
import HandS.Deep
import HandS.Zip
import HandS.IsInst
import HandS.Flow
import KE.KStateDown
import KE.DataFind
import HandS.Ends
import HandS.More
import HandS.WordsExc
import HandS.Defaults
import HandS.SetFor
import HandS.Head0
import HandS.Head1
import HandS.Head2
import HandS.HeadEnd
import HandS.HeadHook1
import HandS.HeadHook2
import KE.SortLaws
import KE.LtData
import PySem.Challenge.RW_exactbeats_k07_whole_copies_of_ideal_swi
set_option Elab.async false
set_option linter.all false
set_option maxRecDepth 100000
set_option maxHeartbeats 4000000
/-! What a small tongue of expressions and statements tells, over values told whole: no machine here. -/
namespace Dn
open PySem
/-! ### values, objects, slots -/
/-- a value told whole: tuples and unchanging lists by their items, other objects by their number -/
inductive D where
  | non | bl (b : Bool) | int (i : Int) | str (x : Str) | tup (xs : List D) | lst (xs : List D) | ref (l : Nat) | cls (x : Str) | fn (x : Str)
/-- a changing object -/
inductive SO where
  | lst (xs : List D) | ins (c : Str) (fs : List (Str × D)) | dct (kvs : List (D × D))
abbrev Store := List SO
/-- a def's name: without a value, with one, or the only name of a changing list or dict -/
inductive Sl where
  | un | val (d : D) | own (xs : List D) | ownd (kvs : List (D × D))
abbrev Rho := List Sl
/-- an end of an expression -/
inductive Rs (a : Type) where
  | ok (x : a) (s : Store) | exc (c : Str) (fs : List (Str × D)) (s : Store) | bad
/-- an end of a statement -/
inductive Sr where
  | next (r : Rho) (s : Store) | ret (d : D) (r : Rho) (s : Store) | brk (r : Rho) (s : Store) | cont (r : Rho) (s : Store) | exc (c : Str) (fs : List (Str × D)) (r : Rho) (s : Store) | bad
def Rs.bind {a b : Type} (x : Rs a) (f : a → Store → Rs b) : Rs b := match x with
  | .ok v s => f v s
  | .exc c fs s => .exc c fs s
  | .bad => .bad
def Rs.toS {a : Type} (x : Rs a) (r : Rho) (f : a → Store → Sr) : Sr := match x with
  | .ok v s => f v s
  | .exc c fs s => .exc c fs r s
  | .bad => .bad
def Rs.ofO {a : Type} (o : Option a) (s : Store) : Rs a := match o with
  | some v => .ok v s
  | none => .bad
def Sr.bind (x : Sr) (f : Rho → Store → Sr) : Sr := match x with
  | .next r s => f r s
  | y => y
@[simp] theorem Rs.bind_ok {a b : Type} (v : a) (s : Store) (f : a → Store → Rs b) : (Rs.ok v s).bind f = f v s := rfl
@[simp] theorem Rs.bind_exc {a b : Type} (c : Str) (fs : List (Str × D)) (s : Store) (f : a → Store → Rs b) : (Rs.exc c fs s : Rs a).bind f = .exc c fs s := rfl
@[simp] theorem Rs.bind_bad {a b : Type} (f : a → Store → Rs b) : (Rs.bad : Rs a).bind f = .bad := rfl
@[simp] theorem Rs.toS_ok {a : Type} (v : a) (s : Store) (r : Rho) (f : a → Store → Sr) : (Rs.ok v s).toS r f = f v s := rfl
@[simp] theorem Rs.toS_exc {a : Type} (c : Str) (fs : List (Str × D)) (s : Store) (r : Rho) (f : a → Store → Sr) : (Rs.exc c fs s : Rs a).toS r f = .exc c fs r s := rfl
@[simp] theorem Rs.toS_bad {a : Type} (r : Rho) (f : a → Store → Sr) : (Rs.bad : Rs a).toS r f = .bad := rfl
@[simp] theorem Rs.ofO_some {a : Type} (v : a) (s : Store) : Rs.ofO (some v) s = .ok v s := rfl
@[simp] theorem Rs.ofO_none {a : Type} (s : Store) : Rs.ofO (none : Option a) s = .bad := rfl
@[simp] theorem Sr.bind_next (r : Rho) (s : Store) (f : Rho → Store → Sr) : (Sr.next r s).bind f = f r s := rfl
@[simp] theorem Sr.bind_ret (d : D) (r : Rho) (s : Store) (f : Rho → Store → Sr) : (Sr.ret d r s).bind f = .ret d r s := rfl
@[simp] theorem Sr.bind_brk (r : Rho) (s : Store) (f : Rho → Store → Sr) : (Sr.brk r s).bind f = .brk r s := rfl
@[simp] theorem Sr.bind_cont (r : Rho) (s : Store) (f : Rho → Store → Sr) : (Sr.cont r s).bind f = .cont r s := rfl
@[simp] theorem Sr.bind_exc (c : Str) (fs : List (Str × D)) (r : Rho) (s : Store) (f : Rho → Store → Sr) : (Sr.exc c fs r s).bind f = .exc c fs r s := rfl
@[simp] theorem Sr.bind_bad (f : Rho → Store → Sr) : Sr.bad.bind f = .bad := rfl
abbrev DE := Rho → Store → Rs D
abbrev DT := Rho → Store → Rs Bool
abbrev DA := Rho → Store → Rs (List D)
abbrev DS := Rho → Store → Sr
/-- what a def is worth -/
abbrev Fn := List D → Store → Rs D
/-! ### data -/
mutual
/-- a value without objects, as the library's data (an object as None) -/
def D.P : D → PyData
  | .non => .none
  | .bl b => .bool b
  | .int i => .int i
  | .str x => .str x
  | .tup xs => .tuple (D.Ps xs)
  | .lst xs => .list (D.Ps xs)
  | .ref _ => .none
  | .cls _ => .none
  | .fn _ => .none
def D.Ps : List D → List PyData
  | [] => []
  | x :: xs => x.P :: D.Ps xs
end
mutual
/-- no objects in it, at most k deep, its texts of a size that is let -/
def D.pl : Nat → D → Bool
  | _, .non => true
  | _, .bl _ => true
  | _, .int _ => true
  | _, .str x => PyData.strOk x
  | 0, .tup _ => false
  | 0, .lst _ => false
  | k + 1, .tup xs => D.pls k xs
  | k + 1, .lst xs => D.pls k xs
  | _, .ref _ => false
  | _, .cls _ => false
  | _, .fn _ => false
def D.pls : Nat → List D → Bool
  | _, [] => true
  | k, x :: xs => D.pl k x && D.pls k xs
end
mutual
/-- == of data -/
def eqD : D → D → Bool
  | .non, .non => true
  | .bl a, .bl b => a == b
  | .bl a, .int j => (if a then 1 else 0) == j
  | .int i, .bl b => i == (if b then 1 else 0)
  | .int i, .int j => i == j
  | .str x, .str y => x == y
  | .tup xs, .tup ys => eqDs xs ys
  | .lst xs, .lst ys => eqDs xs ys
  | _, _ => false
def eqDs : List D → List D → Bool
  | [], [] => true
  | x :: xs, y :: ys => eqD x y && eqDs xs ys
  | _, _ => false
end
/-- a list's items, wherever they stand -/
def listOf (S : Store) : D → Option (List D)
  | .lst xs => some xs
  | .ref l => (match S[l]? with
    | some (.lst xs) => some xs
    | _ => none)
  | _ => none
/-- an object that is a list, told as one -/
def flatL (S : Store) (d : D) : D := match d with
  | .ref l => (match S[l]? with
    | some (.lst xs) => .lst xs
    | _ => .ref l)
  | d => d
/-! ### operators -/
def opAdd (S : Store) (x y : D) : Option D := match x, y with
  | .int i, .int j => some (.int (i + j))
  | .str a, .str b => if a.length + b.length ≤ sizeLine then some (.str (a ++ b)) else none
  | .tup xs, .tup ys => if xs.length + ys.length ≤ sizeLine then some (.tup (xs ++ ys)) else none
  | x, y => (match listOf S x, listOf S y with
    | some xs, some ys => if xs.length + ys.length ≤ sizeLine then some (.lst (xs ++ ys)) else none
    | _, _ => none)
def opSub (x y : D) : Option D := match x, y with
  | .int i, .int j => some (.int (i - j))
  | _, _ => none
/-- a factor that is small enough -/
def mulOk (i j : Int) : Bool := (decide (-(2 ^ 64) < i) && decide (i < 2 ^ 64)) || (decide (-(2 ^ 64) < j) && decide (j < 2 ^ 64))
def opMul (S : Store) (x y : D) : Option D := match x, y with
  | .int i, .int j => if mulOk i j then some (.int (i * j)) else none
  | x, .int k => (match listOf S x with
    | some xs => if decide (-(2 ^ 63) ≤ k) && decide (k < 2 ^ 63) && decide (xs.length * k.toNat ≤ sizeLine) then some (.lst (List.replicate k.toNat xs).flatten) else none
    | none => none)
  | _, _ => none
def opDiv (x y : D) : Option D := match x, y with
  | .int i, .int j => if decide (0 < j) && decide (j < 1073741824) then some (.int (i / j)) else none
  | _, _ => none
def opMod (x y : D) : Option D := match x, y with
  | .int i, .int j => if decide (0 < j) then some (.int (i % j)) else none
  | _, _ => none
def opPow (x y : D) : Option D := match x, y with
  | .int i, .int j => if decide (0 ≤ j) && decide (j ≤ 1000000) && decide (i.natAbs < 2 ^ 64) then some (.int (i ^ j.toNat)) else none
  | _, _ => none
def opNeg (x : D) : Option D := match x with
  | .int i => some (.int (-i))
  | _ => none
/-! ### comparisons: over values -/
def cmpEq (S : Store) (x y : D) : Option Bool := if D.pl 64 (flatL S x) && D.pl 64 (flatL S y) then some (eqD (flatL S x) (flatL S y)) else none
def cmpNe (S : Store) (x y : D) : Option Bool := if D.pl 64 (flatL S x) && D.pl 64 (flatL S y) then some (!eqD (flatL S x) (flatL S y)) else none
/-- the order of data that are alike -/
def ltD (x y : D) : Bool := PySem.W.dataLt x.P y.P
def ltOk (x y : D) : Bool := D.pl 64 x && D.pl 64 y && PySem.W.alike x.P y.P && (match x with
  | .int _ => true
  | .tup _ => true
  | .lst _ => true
  | .str _ => true
  | _ => false)
def cmpLt (x y : D) : Option Bool := if ltOk x y then some (ltD x y) else none
/-- of whole numbers -/
def cmpI (p : Int → Int → Bool) (x y : D) : Option Bool := match x, y with
  | .int i, .int j => some (p i j)
  | _, _ => none
abbrev iLt : Int → Int → Bool := fun i j => decide (i < j)
abbrev iLe : Int → Int → Bool := fun i j => decide (i ≤ j)
abbrev iGt : Int → Int → Bool := fun i j => decide (j < i)
abbrev iGe : Int → Int → Bool := fun i j => decide (j ≤ i)
def cmpIsN (x : D) : Option Bool := match x with
  | .non => some true
  | _ => some false
/-- x is True, x is False -/
def cmpIsB (b : Bool) (x : D) : Option Bool := match x with
  | .bl c => some (c == b)
  | _ => some false
/-! ### expressions -/
def eC (d : D) : DE := fun _ S => .ok d S
def eVar (i : Nat) : DE := fun r S => match r[i]? with
  | some (.val d) => .ok d S
  | _ => .bad
def eOp (f : Store → D → D → Option D) (a b : DE) : DE := fun r S => (a r S).bind fun x S => (b r S).bind fun y S => Rs.ofO (f S x y) S
def eUn (f : D → Option D) (a : DE) : DE := fun r S => (a r S).bind fun x S => Rs.ofO (f x) S
/-- a comparison as a value -/
def eCmp (f : Store → D → D → Option Bool) (a b : DE) : DE := fun r S => (a r S).bind fun x S => (b r S).bind fun y S => Rs.ofO ((f S x y).map D.bl) S
def eCmp1 (f : D → Option Bool) (a : DE) : DE := fun r S => (a r S).bind fun x S => Rs.ofO ((f x).map D.bl) S
/-- a chain of two -/
def eChain (f g : Store → D → D → Option Bool) (a b c : DE) : DE := fun r S => (a r S).bind fun x S => (b r S).bind fun y S => (Rs.ofO (f S x y) S).bind fun k S =>
  if k then (c r S).bind fun z S => Rs.ofO ((g S y z).map D.bl) S else .ok (.bl false) S
/-- a value that is a truth value, as a test -/
def tOfB (a : DE) : DT := fun r S => (a r S).bind fun x S => match x with
  | .bl b => .ok b S
  | _ => .bad
def tNotD (a : DT) : DT := fun r S => (a r S).bind fun x S => .ok (!x) S
def tAndD (a b : DT) : DT := fun r S => (a r S).bind fun x S => if x then b r S else .ok false S
def tOrD (a b : DT) : DT := fun r S => (a r S).bind fun x S => if x then .ok true S else b r S
def eAnd (a b : DE) : DE := fun r S => (a r S).bind fun x S => match x with
  | .bl c => if c then b r S else .ok (.bl false) S
  | _ => .bad
def eOr (a b : DE) : DE := fun r S => (a r S).bind fun x S => match x with
  | .bl c => if c then .ok (.bl true) S else b r S
  | _ => .bad
def eNot (a : DE) : DE := fun r S => (a r S).bind fun x S => match x with
  | .bl c => .ok (.bl (!c)) S
  | _ => .bad
def eIf (t : DT) (a b : DE) : DE := fun r S => (t r S).bind fun x S => if x then a r S else b r S
def aNil : DA := fun _ S => .ok [] S
def aCons (a : DE) (b : DA) : DA := fun r S => (a r S).bind fun x S => (b r S).bind fun xs S => .ok (x :: xs) S
def eTup (a : DA) : DE := fun r S => (a r S).bind fun xs S => if xs.length ≤ sizeLine then .ok (.tup xs) S else .bad
def eLst (a : DA) : DE := fun r S => (a r S).bind fun xs S => if xs.length ≤ sizeLine then .ok (.lst xs) S else .bad
/-- a new list: one that stays, one that changes -/
def nLst (a : DA) : DA := fun r S => (a r S).bind fun xs S => if xs.length ≤ sizeLine then .ok xs S else .bad
def eFrz (a : DA) : DE := fun r S => (a r S).bind fun xs S => .ok (.lst xs) S
def eNew (a : DA) : DE := fun r S => (a r S).bind fun xs S => .ok (.ref S.length) (S ++ [.lst xs])
/-- a call of a def -/
def eCall (m : Fn) (a : DA) : DE := fun r S => (a r S).bind fun xs S => m xs S
/-! ### what is walked, measured, asked: lists and tuples as they stand -/
inductive Src where
  | cst (tup : Bool) (xs : List D) | own (i : Nat) | loc (l : Nat)
abbrev DL := Rho → Store → Rs Src
def Src.get (c : Src) (r : Rho) (S : Store) : Option (List D) := match c with
  | .cst _ xs => some xs
  | .own i => (match r[i]? with
    | some (.own xs) => some xs
    | _ => none)
  | .loc l => (match S[l]? with
    | some (.lst xs) => some xs
    | _ => none)
def srcOf (S : Store) (d : D) : Option Src := match d with
  | .tup xs => some (.cst true xs)
  | .lst xs => some (.cst false xs)
  | .ref l => (match S[l]? with
    | some (.lst _) => some (.loc l)
    | _ => none)
  | _ => none
def Src.isT : Src → Bool
  | .cst t _ => t
  | _ => false
def lE (a : DE) : DL := fun r S => (a r S).bind fun x S => Rs.ofO (srcOf S x) S
def lOwn (i : Nat) : DL := fun r S => match r[i]? with
  | some (.own _) => .ok (.own i) S
  | _ => .bad
/-- a built-in of one list or tuple -/
def eL1 (f : Bool → List D → Option D) (a : DL) : DE := fun r S => (a r S).bind fun c S => Rs.ofO ((c.get r S).bind (f c.isT)) S
def eLen : DL → DE := eL1 fun _ xs => some (.int xs.length)
def eTupOf : DL → DE := eL1 fun _ xs => some (.tup xs)
def eLstOf : DL → DE := eL1 fun _ xs => some (.lst xs)
/-- new lists from others -/
def nLstOf (a : DL) : DA := fun r S => (a r S).bind fun c S => Rs.ofO (c.get r S) S
/-- == of instances without an __eq__: the very same -/
def cmpSame (c : Str) (S : Store) (x y : D) : Option Bool := match x, y with
  | .ref l, .ref k => (match S[l]?, S[k]? with
    | some (.ins a _), some (.ins b _) => if a = c ∧ b = c then some (decide (l = k)) else none
    | _, _ => none)
  | _, _ => none
/-- xs.count(x), xs.index(x) -/
def eCount (b : DL) (a : DE) : DE := fun r S => (b r S).bind fun c S => (Rs.ofO (if c.isT then none else c.get r S) S).bind fun _ S => (a r S).bind fun x S => (Rs.ofO (c.get r S) S).bind fun xs S =>
  if D.pl 63 x && D.pls 63 xs then .ok (.int (xs.countP fun z => eqD z x : Nat)) S else .bad
def eIndex (b : DL) (a : DE) : DE := fun r S => (b r S).bind fun c S => (Rs.ofO (if c.isT then none else c.get r S) S).bind fun _ S => (a r S).bind fun x S => (Rs.ofO (c.get r S) S).bind fun xs S =>
  if D.pl 63 x && D.pls 63 xs && xs.any (fun z => eqD z x) then .ok (.int (xs.findIdx fun z => eqD z x : Nat)) S else .bad
def eLenS (a : DE) : DE := fun r S => (a r S).bind fun x S => match x with
  | .str z => if z.length ≤ sizeLine then .ok (.int z.length) S else .bad
  | _ => .bad
/-- the place i of n, from the end below 0 -/
def place (n : Nat) (i : Int) : Option Nat := if 0 ≤ i then (if i < n then some i.toNat else none) else if -(n : Int) ≤ i then some (i + n).toNat else none
def atD (xs : List D) (i : Int) : Option D := (place xs.length i).bind fun j => xs[j]?
def eIx (a : DL) (b : DE) : DE := fun r S => (a r S).bind fun c S => (b r S).bind fun y S => match y with
  | .int i => Rs.ofO ((c.get r S).bind fun xs => atD xs i) S
  | _ => .bad
/-- o.append(e) of a numbered list -/
def eAppR (o a : DE) : DE := fun r S => (o r S).bind fun p S => match p with
  | .ref l => (match S[l]? with
    | some (.lst _) => (a r S).bind fun x S => (match S[l]? with
      | some (.lst xs) => if xs.length < sizeLine then .ok .non (S.set l (.lst (xs ++ [x]))) else .bad
      | _ => .bad)
    | _ => .bad)
  | _ => .bad
/-- o.pop(k) of a numbered list -/
def ePopR (o k : DE) : DE := fun r S => (o r S).bind fun p S => match p with
  | .ref l => (match S[l]? with
    | some (.lst _) => (k r S).bind fun n S => (match n, S[l]? with
      | .int j, some (.lst xs) => (match place xs.length j with
        | some m => (match xs[m]? with
          | some y => .ok y (S.set l (.lst (xs.eraseIdx m)))
          | none => .bad)
        | none => .bad)
      | _, _ => .bad)
    | _ => .bad)
  | _ => .bad
def ePopR0 (o : DE) : DE := fun r S => (o r S).bind fun p S => match p with
  | .ref l => (match S[l]? with
    | some (.lst xs) => (match xs[xs.length - 1]? with
      | some y => .ok y (S.set l (.lst xs.dropLast))
      | none => .bad)
    | _ => .bad)
  | _ => .bad
/-- bounds of a slice -/
def cutAt (n d : Nat) : Option Int → Nat
  | none => d
  | some i => if i < 0 then (i + n).toNat else min i.toNat n
def cutD (xs : List D) (lo hi : Option Int) : List D := (xs.drop (cutAt xs.length 0 lo)).take (cutAt xs.length xs.length hi - cutAt xs.length 0 lo)
abbrev DO := Rho → Store → Rs (Option Int)
def oNone : DO := fun _ S => .ok none S
def oSome (a : DE) : DO := fun r S => (a r S).bind fun x S => match x with
  | .int i => .ok (some i) S
  | _ => .bad
def eSlice (a : DL) (lo hi : DO) : DE := fun r S => (a r S).bind fun c S => (lo r S).bind fun l S => (hi r S).bind fun u S => (Rs.ofO (c.get r S) S).bind fun xs S =>
  .ok (if c.isT then .tup (cutD xs l u) else .lst (cutD xs l u)) S
def boolsOf : List D → Option (List Bool)
  | [] => some []
  | .bl b :: r => (boolsOf r).map (b :: ·)
  | _ => none
def intsOf : List D → Option (List Int)
  | [] => some []
  | .int i :: r => (intsOf r).map (i :: ·)
  | _ => none
def eAll : DL → DE := eL1 fun t xs => if t then none else (boolsOf xs).map fun bs => .bl (bs.all id)
def eAny : DL → DE := eL1 fun t xs => if t then none else (boolsOf xs).map fun bs => .bl (bs.any id)
def eSum : DL → DE := eL1 fun t xs => if t then none else (intsOf xs).map fun ns => .int ns.sum
/-- Python's sorted of data that are alike -/
def sortD (xs : List D) : List D := xs.mergeSort (PySem.W.dataLe false D.P)
def aliker (xs : List D) : Bool := xs.all fun x => xs.all fun y => PySem.W.alike x.P y.P
def sortOk (xs : List D) : Bool := xs.all (D.pl 64) && aliker xs && (xs.all fun x => match x with
  | .tup (_ :: _) => true
  | .int _ => true
  | .str _ => true
  | _ => false) && ((xs.all fun x => match x with
  | .tup _ => true
  | _ => false) || (xs.all fun x => match x with
  | .tup _ => false
  | _ => true))
def nSorted (a : DL) : DA := fun r S => (a r S).bind fun c S => (Rs.ofO (c.get r S) S).bind fun xs S => if !c.isT && sortOk xs then .ok (sortD xs) S else .bad
def eSorted : DL → DE := eL1 fun t xs => if !t && sortOk xs then some (.lst (sortD xs)) else none
/-- x in a list or tuple -/
def eIn (neg : Bool) (a : DE) (b : DL) : DE := fun r S => (a r S).bind fun x S => (b r S).bind fun c S => (Rs.ofO (c.get r S) S).bind fun xs S =>
  if D.pl 63 x && D.pls 63 xs then .ok (.bl (if neg then !xs.any (fun z => eqD z x) else xs.any (fun z => eqD z x))) S else .bad
def eAbs (a : DE) : DE := fun r S => (a r S).bind fun x S => match x with
  | .int i => .ok (.int (if i < 0 then -i else i)) S
  | _ => .bad
def eInt (a : DE) : DE := fun r S => (a r S).bind fun x S => match x with
  | .int i => .ok (.int i) S
  | .bl b => .ok (.int (if b then 1 else 0)) S
  | _ => .bad
def eMin2 (a b : DE) : DE := fun r S => (a r S).bind fun x S => (b r S).bind fun y S => match x, y with
  | .int i, .int j => .ok (.int (if j < i then j else i)) S
  | _, _ => .bad
def eMax2 (a b : DE) : DE := fun r S => (a r S).bind fun x S => (b r S).bind fun y S => match x, y with
  | .int i, .int j => .ok (.int (if j > i then j else i)) S
  | _, _ => .bad
/-- the built-in classes of a value -/
def tyName (S : Store) (d : D) : Option String := match d with
  | .non => some "NoneType"
  | .bl _ => some "bool"
  | .int _ => some "int"
  | .str _ => some "str"
  | .tup _ => some "tuple"
  | .lst _ => some "list"
  | .ref l => (match S[l]? with
    | some (.lst _) => some "list"
    | some (.dct _) => some "dict"
    | _ => none)
  | .cls _ => none
  | .fn _ => none
def isTy (t : String) (n : String) : Bool := decide (t = n) || (decide (t = "bool") && decide (n = "int"))
def eIsTy (n : String) (a : DE) : DE := fun r S => (a r S).bind fun x S => match tyName S x with
  | some t => .ok (.bl (isTy t n)) S
  | none => .bad
/-! ### objects -/
def eFld (cs : List Str) (f : Str) (a : DE) : DE := fun r S => (a r S).bind fun x S => match x with
  | .ref l => (match S[l]? with
    | some (.ins c fs) => if c ∈ cs then Rs.ofO (fs.lookup f) S else .bad
    | _ => .bad)
  | _ => .bad
def eMeth (c m : Str) (g : Fn) (o : DE) (a : DA) : DE := fun r S => (o r S).bind fun x S => match x with
  | .ref l => (match S[l]? with
    | some (.ins k fs) => if k = c ∧ fs.lookup m = none then (a r S).bind fun xs S => g (x :: xs) S else .bad
    | _ => .bad)
  | _ => .bad
/-- a new instance -/
def eMake (c : Str) (g : Fn) (a : DA) : DE := fun r S => (a r S).bind fun xs S => (g (.ref S.length :: xs) (S ++ [.ins c []])).bind fun v S2 => match v with
  | .non => .ok (.ref S.length) S2
  | _ => .bad
def putFD (f : Str) (v : D) : List (Str × D) → List (Str × D)
  | [] => [(f, v)]
  | (g, x) :: r => if g = f then (g, v) :: r else (g, x) :: putFD f v r
/-! ### comprehensions -/
abbrev DG := D → Rho → Store → Option Rho
def gNameD (i : Nat) : DG := fun v r _ => if i < r.length then some (r.set i (.val v)) else none
def gsNil : List D → Rho → Store → Option Rho := fun vs r _ => match vs with
  | [] => some r
  | _ => none
def gsCons (g : DG) (h : List D → Rho → Store → Option Rho) : List D → Rho → Store → Option Rho := fun vs r S => match vs with
  | v :: vs => (g v r S).bind fun r' => h vs r' S
  | [] => none
def gTupD (n : Nat) (h : List D → Rho → Store → Option Rho) : DG := fun v r S => match v with
  | .tup xs => if xs.length = n then h xs r S else none
  | _ => none
def wipeD (r : Rho) : List Nat → Rho
  | [] => r
  | v :: vs => (wipeD r vs).set v .un
def tYesD : DT := fun _ S => .ok true S
/-- no error leaves a comprehension -/
def noX {a : Type} (x : Rs a) : Rs a := match x with
  | .exc _ _ _ => .bad
  | y => y
@[simp] theorem noX_ok {a : Type} (v : a) (s : Store) : noX (.ok v s) = .ok v s := rfl
@[simp] theorem noX_bad {a : Type} : noX (.bad : Rs a) = .bad := rfl
@[simp] theorem noX_exc {a : Type} (c : Str) (fs : List (Str × D)) (s : Store) : noX (.exc c fs s : Rs a) = .bad := rfl
/-- what is walked: its items, and what must stay as it is while it is walked -/
structure Wk where
  xs : List D
  ok : Store → Prop
abbrev DI := Rho → Store → Rs Wk
open scoped Classical in
noncomputable def lcGo (ok : Store → Prop) (g : DG) (t : DT) (e : DE) (r : Rho) : List D → Store → Rs (List D)
  | [], S => if ok S then .ok [] S else .bad
  | x :: xs, S => if ok S then (match g x r S with
    | none => .bad
    | some r' => (noX (t r' S)).bind fun b S => if b then (noX (e r' S)).bind fun y S => (lcGo ok g t e r xs S).bind fun ys S => .ok (y :: ys) S else lcGo ok g t e r xs S) else .bad
noncomputable def nLc (its : DI) (g : DG) (t : DT) (e : DE) (vs : List Nat) : DA := fun r S => (its r S).bind fun w S => lcGo w.ok g t e (wipeD r vs) w.xs S
/-! ### what a loop or a comprehension walks, as lists of items -/
def rangeD (lo hi : Int) : List D := (List.range (hi - lo).toNat).map fun (k : Nat) => D.int (lo + (k : Int))
def rOk (i : Int) : Bool := decide (-(2 ^ 62) ≤ i) && decide (i < 2 ^ 62)
def wkS (xs : List D) : Wk := ⟨xs, fun _ => True⟩
def iRange1 (a : DE) : DI := fun r S => (a r S).bind fun x S => match x with
  | .int j => if rOk j && decide (j ≤ sizeLine) then .ok (wkS (rangeD 0 j)) S else .bad
  | _ => .bad
def iRange2 (a b : DE) : DI := fun r S => (a r S).bind fun x S => (b r S).bind fun y S => match x, y with
  | .int i, .int j => if rOk i && rOk j && decide (j - i ≤ sizeLine) then .ok (wkS (rangeD i j)) S else .bad
  | _, _ => .bad
/-- a list or a tuple, walked -/
def wkOf (S : Store) (d : D) : Option Wk := match d with
  | .tup xs => some (wkS xs)
  | .lst xs => some (wkS xs)
  | .ref l => (match S[l]? with
    | some (.lst xs) => some ⟨xs, fun S => S[l]? = some (.lst xs)⟩
    | _ => none)
  | _ => none
def wkL (S : Store) (d : D) : Option Wk := match d with
  | .tup _ => none
  | d => wkOf S d
def iSeqD (a : DE) : DI := fun r S => (a r S).bind fun x S => Rs.ofO (wkOf S x) S
def enumD (k : Nat) : List D → List D
  | [] => []
  | x :: xs => .tup [.int k, x] :: enumD (k + 1) xs
def iEnumD (a : DE) : DI := fun r S => (a r S).bind fun x S => match wkL S x with
  | some w => if w.xs.length ≤ sizeLine then .ok ⟨enumD 0 w.xs, w.ok⟩ S else .bad
  | none => .bad
def zipD : List D → List D → List D
  | x :: xs, y :: ys => .tup [x, y] :: zipD xs ys
  | _, _ => []
def wkZ (S : Store) (x y : D) : Option Wk := match x, y with
  | .tup xs, .tup ys => some (wkS (zipD xs ys))
  | x, y => (wkL S x).bind fun w => (wkL S y).map fun v => ⟨zipD w.xs v.xs, fun S => w.ok S ∧ v.ok S⟩
def iZipD (a b : DE) : DI := fun r S => (a r S).bind fun x S => (b r S).bind fun y S => match wkZ S x y with
  | some w => if w.xs.length ≤ sizeLine then .ok w S else .bad
  | none => .bad
/-! ### statements -/
def sNext : DS := fun r S => .next r S
def sSeq (a b : DS) : DS := fun r S => (a r S).bind b
def sSet (i : Nat) (a : DE) : DS := fun r S => (a r S).toS r fun x S => if i < r.length then .next (r.set i (.val x)) S else .bad
/-- name = a list of its own -/
def sSetOwn (i : Nat) (a : DA) : DS := fun r S => (a r S).toS r fun xs S => if i < r.length then .next (r.set i (.own xs)) S else .bad
def sAsg (a : DE) (g : DG) : DS := fun r S => (a r S).toS r fun x S => match g x r S with
  | some r' => .next r' S
  | none => .bad
/-- a, b = x, y -/
def sPar (i j : Nat) (a b : DE) : DS := fun r S => (a r S).toS r fun x S => (b r S).toS r fun y S => if i < r.length ∧ j < r.length then .next ((r.set i (.val x)).set j (.val y)) S else .bad
def sDrop (a : DE) : DS := fun r S => (a r S).toS r fun _ S => .next r S
def sRet (a : DE) : DS := fun r S => (a r S).toS r fun x S => .ret x r S
/-- return of a list of its own: it changes no more -/
def sRetOwn (i : Nat) : DS := fun r S => match r[i]? with
  | some (.own xs) => .ret (.lst xs) (r.set i .un) S
  | _ => .bad
/-- from here on the list changes no more -/
def sFrz (i : Nat) : DS := fun r S => match r[i]? with
  | some (.own xs) => .next (r.set i (.val (.lst xs))) S
  | _ => .bad
def sRetN : DS := fun r S => .ret .non r S
def sIf (t : DT) (a b : DS) : DS := fun r S => (t r S).toS r fun x S => if x then a r S else b r S
def sBrk : DS := fun r S => .brk r S
def sCnt : DS := fun r S => .cont r S
def sBad : DS := fun _ _ => .bad
/-- xs.append(e), xs a list of its own -/
def sApp (i : Nat) (a : DE) : DS := fun r S => match r[i]? with
  | some (.own _) => (a r S).toS r fun x S => match r[i]? with
    | some (.own xs) => if xs.length < sizeLine then .next (r.set i (.own (xs ++ [x]))) S else .bad
    | _ => .bad
  | _ => .bad
/-- o[k] = e, o an object that is a list -/
def sPutR (o k : DE) (a : DE) : DS := fun r S => (a r S).toS r fun x S => (o r S).toS r fun p S => (k r S).toS r fun n S => match p, n with
  | .ref l, .int j => (match S[l]? with
    | some (.lst xs) => (match place xs.length j with
      | some m => .next r (S.set l (.lst (xs.set m x)))
      | none => .bad)
    | _ => .bad)
  | _, _ => .bad
/-- xs[k] = e, xs a list of its own -/
def sPut (i : Nat) (k : DE) (a : DE) : DS := fun r S => (a r S).toS r fun x S => match r[i]? with
  | some (.own _) => (k r S).toS r fun n S => (match n, r[i]? with
    | .int j, some (.own xs) => (match place xs.length j with
      | some m => .next (r.set i (.own (xs.set m x))) S
      | none => .bad)
    | _, _ => .bad)
  | _ => .bad
/-- o.f = e -/
def sFldD (cs : List Str) (f : Str) (o : DE) (a : DE) : DS := fun r S => (a r S).toS r fun x S => (o r S).toS r fun p S => match p with
  | .ref l => (match S[l]? with
    | some (.ins c fs) => if c ∈ cs ∧ fs.length < 1000 then .next r (S.set l (.ins c (putFD f x fs))) else .bad
    | _ => .bad)
  | _ => .bad
def sAugI (i : Nat) (f : Int → Int → Int) (a : DE) : DS := fun r S => match r[i]? with
  | some (.val (.int x)) => (a r S).toS r fun y S => (match y with
    | .int j => .next (r.set i (.val (.int (f x j)))) S
    | _ => .bad)
  | _ => .bad
open scoped Classical in
/-- the turns of a loop -/
noncomputable def forGo (ok : Store → Prop) (g : DG) (b : DS) : List D → Rho → Store → Sr
  | [], r, S => if ok S then .next r S else .bad
  | x :: xs, r, S => if ok S then (match g x r S with
    | none => .bad
    | some r' => (match b r' S with
      | .next r2 S2 => forGo ok g b xs r2 S2
      | .cont r2 S2 => forGo ok g b xs r2 S2
      | .brk r2 S2 => .next r2 S2
      | .ret d r2 S2 => .ret d r2 S2
      | .exc c fs r2 S2 => .exc c fs r2 S2
      | .bad => .bad)) else .bad
noncomputable def sFor (its : DI) (g : DG) (b : DS) : DS := fun r S => (its r S).toS r fun w S => forGo w.ok g b w.xs r S
def whileGo (t : DT) (b : DS) : Nat → Rho → Store → Sr
  | 0, _, _ => .bad
  | n + 1, r, S => (t r S).toS r fun c S => if c then (match b r S with
      | .next r2 S2 => whileGo t b n r2 S2
      | .cont r2 S2 => whileGo t b n r2 S2
      | .brk r2 S2 => .next r2 S2
      | .ret d r2 S2 => .ret d r2 S2
      | .exc c fs r2 S2 => .exc c fs r2 S2
      | .bad => .bad) else .next r S
def sWhile (n : Nat) (t : DT) (b : DS) : DS := whileGo t b n
/-! ### a def -/
def fnD (np n : Nat) (b : DS) : Fn := fun ds S => if ds.length = np then (match b (ds.map Sl.val ++ List.replicate (n - np) Sl.un) S with
  | .next _ S => .ok .non S
  | .ret d _ S => .ok d S
  | .exc c fs _ S => .exc c fs S
  | _ => .bad) else .bad
end Dn

set_option Elab.async false
set_option linter.all false
set_option maxRecDepth 100000
set_option maxHeartbeats 4000000
/-! How the values told whole stand in the layer's heap. -/
namespace L2
open PySem PySem.Spec PyProof.Rows
section
variable {X : Cx} {e : Expr}
theorem PE.dimp {t t' : TE} (h : PE X e t) (k : ∀ s H Q, t' s H Q → t s H Q) : PE X e t' := ⟨fun pins st s H Q I q => h.run pins st s H Q I (k s H Q q)⟩
theorem PT.dimp {t t' : TT} (h : PT X e t) (k : ∀ s H Q, t' s H Q → t s H Q) : PT X e t' := ⟨fun pins st s H Q I q => h.run pins st s H Q I (k s H Q q)⟩
theorem PA.dimp {es : List Expr} {t t' : TA} (h : PA X es t) (k : ∀ s H Q, t' s H Q → t s H Q) : PA X es t' := ⟨fun pos pins st s H Q I q => h.run pos pins st s H Q I (k s H Q q)⟩
theorem PS.dimp {st : Stmt} {t t' : TS} (h : PS X st t) (k : ∀ D s H, t' D s H → t D s H) : PS X st t' := ⟨fun pins z s H D I q => h.run pins z s H D I (k D s H q)⟩
theorem PSs.dimp {st : List Stmt} {t t' : TS} (h : PSs X st t) (k : ∀ D s H, t' D s H → t D s H) : PSs X st t' := ⟨fun pins z s H D I q => h.run pins z s H D I (k D s H q)⟩
end
end L2
namespace Dn
open PySem PySem.Spec PyProof.Rows L2
/-- where the changing objects, the tuples, the unchanging lists stand -/
structure Mp where
  loc : Nat → Option Addr
  tup : Addr → Option (List V)
  lst : Addr → Option (List V)
/-- the text's own part -/
structure Gx where
  K : PySem.W.Frag
  mg : Str → Option Value
abbrev noHp : Hp := fun _ => none
mutual
def RelD (G : Gx) (M : Mp) : D → V → Prop
  | .non, v => v = .non
  | .bl b, v => v = .bl b
  | .int i, v => v = .int i
  | .str x, v => v = .str x
  | .tup ds, v => ∃ a vs, v = .ref a ∧ (M.tup a = some vs ∨ SqT G.K noHp a vs) ∧ RelDs G M ds vs
  | .lst ds, v => ∃ a vs, v = .ref a ∧ (M.lst a = some vs ∨ SqL G.K noHp a vs) ∧ RelDs G M ds vs
  | .ref l, v => ∃ a, v = .ref a ∧ M.loc l = some a
  | .cls x, v => ∃ a, v = .ref a ∧ G.mg x = some (.ref a)
  | .fn x, v => ∃ a, v = .ref a ∧ G.mg x = some (.ref a)
def RelDs (G : Gx) (M : Mp) : List D → List V → Prop
  | [], vs => vs = []
  | d :: ds, vs => ∃ v r, vs = v :: r ∧ RelD G M d v ∧ RelDs G M ds r
end
def RelFs (G : Gx) (M : Mp) : List (Str × D) → List (Str × V) → Prop
  | [], vs => vs = []
  | (f, d) :: ds, vs => ∃ v r, vs = (f, v) :: r ∧ RelD G M d v ∧ RelFs G M ds r
def ObjR (G : Gx) (M : Mp) : SO → Option HO → Prop
  | .lst ds, o => ∃ vs, o = some (.lst vs) ∧ RelDs G M ds vs
  | .ins c fs, o => ∃ C dx vfs, o = some (.ins C dx vfs) ∧ G.mg c = some (.ref C) ∧ RelFs G M fs vfs
  | .dct _, _ => False
structure RelH (G : Gx) (M : Mp) (S : Store) (H : Hp) : Prop where
  obj : ∀ (l : Nat) (o : SO), S[l]? = some o → ∃ a, M.loc l = some a ∧ ObjR G M o (H a)
  dom : ∀ l a, M.loc l = some a → l < S.length
  inj : ∀ l k a, M.loc l = some a → M.loc k = some a → l = k
  tup : ∀ a vs, M.tup a = some vs → H a = some (.tup vs)
  lst : ∀ a vs, M.lst a = some vs → Rd H a (.lst vs)
  apt : ∀ a vs l, M.lst a = some vs → M.loc l ≠ some a
theorem RelH.sq {G : Gx} {M : Mp} {S : Store} {H : Hp} {a : Addr} {vs : List V} (rh : RelH G M S H) (h : M.lst a = some vs ∨ SqL G.K noHp a vs) : SqL G.K H a vs := by
  rcases h with h | h
  · exact .inl (rh.lst a vs h)
  · rcases h with z | z
    · rcases z with z | ⟨_, z⟩ <;> cases z
    · exact .inr z
/-- what may be there further on -/
structure Ext (M : Mp) (H : Hp) (M' : Mp) (H' : Hp) : Prop where
  loc : ∀ l a, M.loc l = some a → M'.loc l = some a
  tup : ∀ a vs, M.tup a = some vs → M'.tup a = some vs
  lst : ∀ a vs, M.lst a = some vs → M'.lst a = some vs
  new : ∀ l a, M'.loc l = some a → M.loc l = some a ∨ H a = none
  newl : ∀ a vs, M'.lst a = some vs → M.lst a = some vs ∨ H a = none
  keep : ∀ a o, H a = some o → (∀ l, M.loc l ≠ some a) → H' a = some o
  there : ∀ a o, H a = some o → ∃ o', H' a = some o'
theorem Ext.refl {M : Mp} {H : Hp} : Ext M H M H := ⟨fun _ _ h => h, fun _ _ h => h, fun _ _ h => h, fun _ _ h => .inl h, fun _ _ h => .inl h, fun _ _ h _ => h, fun _ o h => ⟨o, h⟩⟩
theorem Ext.trans {M M1 M2 : Mp} {H H1 H2 : Hp} (a : Ext M H M1 H1) (b : Ext M1 H1 M2 H2) : Ext M H M2 H2 where
  loc := fun l x h => b.loc l x (a.loc l x h)
  tup := fun l x h => b.tup l x (a.tup l x h)
  lst := fun l x h => b.lst l x (a.lst l x h)
  new := fun l x h => by
    rcases b.new l x h with q | q
    · exact a.new l x q
    · refine .inr ?_
      cases e : H x with
      | none => rfl
      | some o =>
        obtain ⟨o', e'⟩ := a.there x o e
        rw [q] at e'; cases e'
  newl := fun l x h => by
    rcases b.newl l x h with q | q
    · exact a.newl l x q
    · refine .inr ?_
      cases e : H l with
      | none => rfl
      | some o =>
        obtain ⟨o', e'⟩ := a.there l o e
        rw [q] at e'; cases e'
  keep := fun x o h n => b.keep x o (a.keep x o h n) fun l q => by
    rcases a.new l x q with z | z
    · exact n l z
    · rw [h] at z; cases z
  there := fun x o h => by
    obtain ⟨o', h'⟩ := a.there x o h
    exact b.there x o' h'
section
variable {G : Gx} {M M' : Mp} {H H' : Hp}
mutual
theorem RelD.mono (e : Ext M H M' H') : ∀ {d : D} {v : V}, RelD G M d v → RelD G M' d v
  | .non, _, h => h
  | .bl _, _, h => h
  | .int _, _, h => h
  | .str _, _, h => h
  | .tup ds, _, h => by
    obtain ⟨a, vs, rfl, h1, h2⟩ := h
    exact ⟨a, vs, rfl, h1.imp (e.tup a vs) id, RelDs.mono e h2⟩
  | .lst ds, _, h => by
    obtain ⟨a, vs, rfl, h1, h2⟩ := h
    exact ⟨a, vs, rfl, h1.imp (e.lst a vs) id, RelDs.mono e h2⟩
  | .ref l, _, h => by
    obtain ⟨a, rfl, h1⟩ := h
    exact ⟨a, rfl, e.loc l a h1⟩
  | .cls _, _, h => h
  | .fn _, _, h => h
theorem RelDs.mono (e : Ext M H M' H') : ∀ {ds : List D} {vs : List V}, RelDs G M ds vs → RelDs G M' ds vs
  | [], _, h => h
  | d :: ds, _, h => by
    obtain ⟨v, r, rfl, h1, h2⟩ := h
    exact ⟨v, r, rfl, RelD.mono e h1, RelDs.mono e h2⟩
end
theorem RelFs.mono (e : Ext M H M' H') : ∀ {ds : List (Str × D)} {vs : List (Str × V)}, RelFs G M ds vs → RelFs G M' ds vs
  | [], _, h => h
  | (f, d) :: ds, _, h => by
    obtain ⟨v, r, rfl, h1, h2⟩ := h
    exact ⟨v, r, rfl, h1.mono e, RelFs.mono e h2⟩
theorem ObjR.mono (e : Ext M H M' H') {o : SO} {x : Option HO} (h : ObjR G M o x) : ObjR G M' o x := by
  cases o with
  | lst ds => obtain ⟨vs, h1, h2⟩ := h; exact ⟨vs, h1, h2.mono e⟩
  | ins c fs => obtain ⟨C, dx, vfs, h1, h2, h3⟩ := h; exact ⟨C, dx, vfs, h1, h2, h3.mono e⟩
  | dct _ => exact h
theorem RelDs.len : ∀ {ds : List D} {vs : List V}, RelDs G M ds vs → ds.length = vs.length
  | [], _, h => by cases (show _ = [] from h); rfl
  | d :: ds, _, h => by
    obtain ⟨v, r, rfl, h1, h2⟩ := h
    simp only [List.length_cons]
    rw [RelDs.len h2]
theorem RelDs.cons {d : D} {ds : List D} {v : V} {vs : List V} (h : RelD G M d v) (t : RelDs G M ds vs) : RelDs G M (d :: ds) (v :: vs) := ⟨v, vs, rfl, h, t⟩
theorem RelDs.nil : RelDs G M [] [] := rfl
theorem RelDs.append : ∀ {ds es : List D} {vs ws : List V}, RelDs G M ds vs → RelDs G M es ws → RelDs G M (ds ++ es) (vs ++ ws)
  | [], _, _, _, h, k => by cases (show _ = [] from h); exact k
  | d :: ds, _, _, _, h, k => by
    obtain ⟨v, r, rfl, h1, h2⟩ := h
    exact ⟨v, r ++ _, rfl, h1, RelDs.append h2 k⟩
theorem RelDs.get : ∀ {ds : List D} {vs : List V} {i : Nat} {d : D}, RelDs G M ds vs → ds[i]? = some d → ∃ v, vs[i]? = some v ∧ RelD G M d v
  | [], _, _, _, _, e => by simp at e
  | d :: ds, _, 0, x, h, e => by
    obtain ⟨v, r, rfl, h1, h2⟩ := h
    simp at e; subst e
    exact ⟨v, rfl, h1⟩
  | d :: ds, _, i + 1, x, h, e => by
    obtain ⟨v, r, rfl, h1, h2⟩ := h
    obtain ⟨w, e1, e2⟩ := RelDs.get (i := i) h2 (by simpa using e)
    exact ⟨w, by simpa using e1, e2⟩
theorem RelDs.getV : ∀ {ds : List D} {vs : List V} {i : Nat} {v : V}, RelDs G M ds vs → vs[i]? = some v → ∃ d, ds[i]? = some d ∧ RelD G M d v
  | [], _, _, _, h, e => by cases (show _ = [] from h); simp at e
  | d :: ds, _, 0, x, h, e => by
    obtain ⟨v, r, rfl, h1, h2⟩ := h
    simp at e; subst e
    exact ⟨d, rfl, h1⟩
  | d :: ds, _, i + 1, x, h, e => by
    obtain ⟨v, r, rfl, h1, h2⟩ := h
    obtain ⟨w, e1, e2⟩ := RelDs.getV (i := i) h2 (by simpa using e)
    exact ⟨w, by simpa using e1, e2⟩
theorem RelDs.set : ∀ {ds : List D} {vs : List V} (i : Nat) {d : D} {v : V}, RelDs G M ds vs → RelD G M d v → RelDs G M (ds.set i d) (vs.set i v)
  | [], _, _, _, _, h, _ => by cases (show _ = [] from h); exact RelDs.nil
  | d :: ds, _, 0, x, y, h, k => by
    obtain ⟨v, r, rfl, h1, h2⟩ := h
    exact ⟨y, r, rfl, k, h2⟩
  | d :: ds, _, i + 1, x, y, h, k => by
    obtain ⟨v, r, rfl, h1, h2⟩ := h
    exact ⟨v, r.set i y, rfl, h1, RelDs.set i h2 k⟩
theorem RelDs.drop : ∀ {ds : List D} {vs : List V} (n : Nat), RelDs G M ds vs → RelDs G M (ds.drop n) (vs.drop n)
  | _, _, 0, h => h
  | [], _, n + 1, h => by cases (show _ = [] from h); exact RelDs.nil
  | d :: ds, _, n + 1, h => by
    obtain ⟨v, r, rfl, h1, h2⟩ := h
    exact RelDs.drop n h2
theorem RelDs.take : ∀ {ds : List D} {vs : List V} (n : Nat), RelDs G M ds vs → RelDs G M (ds.take n) (vs.take n)
  | _, _, 0, h => by simp only [List.take_zero]; exact RelDs.nil
  | [], _, n + 1, h => by cases (show _ = [] from h); exact RelDs.nil
  | d :: ds, _, n + 1, h => by
    obtain ⟨v, r, rfl, h1, h2⟩ := h
    exact ⟨v, _, rfl, h1, RelDs.take n h2⟩
theorem RelDs.repl {ds : List D} {vs : List V} (h : RelDs G M ds vs) : ∀ n : Nat, RelDs G M (List.replicate n ds).flatten (List.replicate n vs).flatten
  | 0 => by simp only [List.replicate_zero, List.flatten_nil]; exact RelDs.nil
  | n + 1 => by
    simp only [List.replicate_succ, List.flatten_cons]
    exact h.append (RelDs.repl h n)
theorem RelFs.lookup : ∀ {fs : List (Str × D)} {vs : List (Str × V)} {f : Str} {d : D}, RelFs G M fs vs → fs.lookup f = some d → ∃ v, vs.lookup f = some v ∧ RelD G M d v
  | [], _, _, _, _, e => by simp at e
  | (g, d) :: fs, _, f, x, h, e => by
    obtain ⟨v, r, rfl, h1, h2⟩ := h
    rw [List.lookup_cons] at e ⊢
    cases q : f == g with
    | true => rw [q] at e; cases e; exact ⟨v, rfl, h1⟩
    | false =>
      rw [q] at e
      exact RelFs.lookup h2 e
theorem RelFs.lookupN : ∀ {fs : List (Str × D)} {vs : List (Str × V)} {f : Str}, RelFs G M fs vs → fs.lookup f = none → vs.lookup f = none
  | [], _, _, h, _ => by cases (show _ = [] from h); rfl
  | (g, d) :: fs, _, f, h, e => by
    obtain ⟨v, r, rfl, h1, h2⟩ := h
    rw [List.lookup_cons] at e ⊢
    cases q : f == g with
    | true => rw [q] at e; cases e
    | false =>
      rw [q] at e
      exact RelFs.lookupN h2 e
theorem RelFs.len : ∀ {fs : List (Str × D)} {vs : List (Str × V)}, RelFs G M fs vs → fs.length = vs.length
  | [], _, h => by cases (show _ = [] from h); rfl
  | (_, d) :: ds, _, h => by
    obtain ⟨v, r, rfl, h1, h2⟩ := h
    simp only [List.length_cons]
    rw [RelFs.len h2]
theorem RelFs.put {f : Str} {d : D} {v : V} (k : RelD G M d v) : ∀ {fs : List (Str × D)} {vs : List (Str × V)}, RelFs G M fs vs → RelFs G M (putFD f d fs) (putF f v vs)
  | [], _, h => by cases (show _ = [] from h); exact ⟨v, [], rfl, k, rfl⟩
  | (g, x) :: fs, _, h => by
    obtain ⟨w, r, rfl, h1, h2⟩ := h
    unfold putFD putF
    by_cases q : g = f
    · rw [if_pos q, if_pos q]; exact ⟨v, r, rfl, k, h2⟩
    · rw [if_neg q, if_neg q]; exact ⟨w, _, rfl, h1, RelFs.put k h2⟩
end
/-! ### slots -/
def SlotR (G : Gx) (M : Mp) (H : Hp) : Sl → Option V → Prop
  | .un, _ => True
  | .val d, v => ∃ x, v = some x ∧ RelD G M d x
  | .own ds, v => ∃ a vs, v = some (.ref a) ∧ H a = some (.lst vs) ∧ RelDs G M ds vs ∧ (∀ l, M.loc l ≠ some a) ∧ M.lst a = none
  | .ownd _, _ => False
structure EnvR (G : Gx) (M : Mp) (H : Hp) (r : Rho) (s : L2.St) : Prop where
  len : r.length = s.length
  sl : ∀ (i : Nat) (x : Sl), r[i]? = some x → ∃ v, s[i]? = some v ∧ SlotR G M H x v
  apt : ∀ (i j : Nat) (xs ys : List D) (a : Addr), r[i]? = some (.own xs) → r[j]? = some (.own ys) → s[i]? = some (some (.ref a)) → s[j]? = some (some (.ref a)) → i = j
theorem SlotR.mono {G : Gx} {M M' : Mp} {H H' : Hp} (e : Ext M H M' H') {x : Sl} {v : Option V} (h : SlotR G M H x v) : SlotR G M' H' x v := by
  cases x with
  | un => trivial
  | val d => obtain ⟨x, h1, h2⟩ := h; exact ⟨x, h1, h2.mono e⟩
  | own ds =>
    obtain ⟨a, vs, h1, h2, h3, h4, h5⟩ := h
    refine ⟨a, vs, h1, e.keep a _ h2 h4, h3.mono e, fun l q => ?_, ?_⟩
    · rcases e.new l a q with z | z
      · exact h4 l z
      · rw [h2] at z; cases z
    · cases q : M'.lst a with
      | none => rfl
      | some ws =>
        rcases e.newl a ws q with z | z
        · rw [h5] at z; cases z
        · rw [h2] at z; cases z
  | ownd _ => exact h
theorem EnvR.mono {G : Gx} {M M' : Mp} {H H' : Hp} {r : Rho} {s : L2.St} (e : Ext M H M' H') (h : EnvR G M H r s) : EnvR G M' H' r s :=
  ⟨h.len, fun i x q => let ⟨v, h1, h2⟩ := h.sl i x q; ⟨v, h1, h2.mono e⟩, h.apt⟩
/-! ### an exception -/
def ExcR (G : Gx) (M : Mp) (fs : List (Str × D)) (dx : Option Addr) (H : Hp) : Prop := (fs = [] ∧ dx = none) ∨ ∃ d vfs, dx = some d ∧ H d = some (.xd vfs) ∧ RelFs G M fs vfs
/-! ### ends -/
/-- an end: what is wanted of it; R tells how the answer lies -/
def Post {a b : Type} (G : Gx) (R : Mp → Hp → a → b → Prop) (W : WX) (M : Mp) (H : Hp) (s : L2.St) (r : Rs a) (Q : b → Hp → Prop) : Prop := match r with
  | .ok x S => ∀ M' y H', Ext M H M' H' → RelH G M' S H' → R M' H' x y → Q y H'
  | .exc c fs S => ∀ M' H' C dx, Ext M H M' H' → RelH G M' S H' → G.mg c = some (.ref C) → ExcR G M' fs dx H' → W (.ref C) dx s H'
  | .bad => False
section
variable {a b a2 b2 : Type} {G : Gx} {R : Mp → Hp → a → b → Prop} {R2 : Mp → Hp → a2 → b2 → Prop} {W : WX} {M M1 : Mp} {H H1 : Hp} {s : L2.St} {Q Q' : b → Hp → Prop} {Q2 : b2 → Hp → Prop}
theorem Post.mono {r : Rs a} (e : Ext M H M1 H1) (h : Post G R W M H s r Q) : Post G R W M1 H1 s r Q := by
  cases r with
  | ok x S => exact fun M' y H' e' => h M' y H' (e.trans e')
  | exc c fs S => exact fun M' H' C dx e' => h M' H' C dx (e.trans e')
  | bad => exact h
theorem Post.imp {r : Rs a} (h : Post G R W M H s r Q) (k : ∀ y H, Q y H → Q' y H) : Post G R W M H s r Q' := by
  cases r with
  | ok x S => exact fun M' y H' e rh q => k _ _ (h M' y H' e rh q)
  | exc c fs S => exact h
  | bad => exact h
theorem Post.bind {r : Rs a} {f : a → Store → Rs a2} (h : Post G R2 W M H s (r.bind f) Q2) :
    Post G R W M H s r fun y H1 => ∃ M1 x S1, Ext M H M1 H1 ∧ RelH G M1 S1 H1 ∧ R M1 H1 x y ∧ Post G R2 W M1 H1 s (f x S1) Q2 := by
  cases r with
  | ok x S => exact fun M1 y H1 e rh q => ⟨M1, x, S, e, rh, q, Post.mono e h⟩
  | exc c fs S => exact h
  | bad => exact h
end
abbrev gx (X : Cx) : Gx := ⟨X.K, X.mg⟩
abbrev RD (G : Gx) : Mp → Hp → D → V → Prop := fun M _ d v => RelD G M d v
abbrev RB : Mp → Hp → Bool → Bool → Prop := fun _ _ b c => b = c
abbrev RA (G : Gx) : Mp → Hp → List D → List V → Prop := fun M _ d v => RelDs G M d v
/-- the reading of an expression that tells d -/
def tE (G : Gx) (W : WX) (d : DE) : TE := fun s H Q => ∃ M r S, EnvR G M H r s ∧ RelH G M S H ∧ Post G (RD G) W M H s (d r S) Q
def tT (G : Gx) (W : WX) (d : DT) : TT := fun s H Q => ∃ M r S, EnvR G M H r s ∧ RelH G M S H ∧ Post G RB W M H s (d r S) Q
def tA (G : Gx) (W : WX) (d : DA) : TA := fun s H Q => ∃ M r S, EnvR G M H r s ∧ RelH G M S H ∧ Post G (RA G) W M H s (d r S) Q
def RSrc (G : Gx) (s : L2.St) : Mp → Hp → Src → V → Prop := fun M _ c v => match c with
  | .cst true xs => RelD G M (.tup xs) v
  | .cst false xs => RelD G M (.lst xs) v
  | .own i => ∃ a, v = .ref a ∧ s[i]? = some (some (.ref a))
  | .loc l => RelD G M (.ref l) v
def tL (G : Gx) (W : WX) (d : DL) : TE := fun s H Q => ∃ M r S, EnvR G M H r s ∧ RelH G M S H ∧ Post G (RSrc G s) W M H s (d r S) Q
abbrev SE (X : Cx) (W : WX) (e : Expr) (d : DE) : Prop := PE X e (tE (gx X) W d)
abbrev ST (X : Cx) (W : WX) (e : Expr) (d : DT) : Prop := PT X e (tT (gx X) W d)
abbrev SA (X : Cx) (W : WX) (es : List Expr) (d : DA) : Prop := PA X es (tA (gx X) W d)
abbrev SL (X : Cx) (W : WX) (e : Expr) (d : DL) : Prop := PE X e (tL (gx X) W d)
/-! ### statements: told from the def's entry M0, H0 -/
structure Wst (G : Gx) (M0 : Mp) (H0 : Hp) (M : Mp) (r : Rho) (S : Store) (s : L2.St) (H : Hp) : Prop where
  env : EnvR G M H r s
  heap : RelH G M S H
  ext : Ext M0 H0 M H
  own : ∀ (i : Nat) (xs : List D) (a : Addr), r[i]? = some (.own xs) → s[i]? = some (some (.ref a)) → H0 a = none
theorem Wst.mono {G : Gx} {M0 : Mp} {H0 : Hp} {M M' : Mp} {r : Rho} {S S' : Store} {s : L2.St} {H H' : Hp} (h : Wst G M0 H0 M r S s H) (e : Ext M H M' H') (rh : RelH G M' S' H') : Wst G M0 H0 M' r S' s H' :=
  ⟨h.env.mono e, rh, h.ext.trans e, h.own⟩
/-- what stands goes on standing -/
structure Le (M M' : Mp) : Prop where
  loc : ∀ l a, M.loc l = some a → M'.loc l = some a
  tup : ∀ a vs, M.tup a = some vs → M'.tup a = some vs
  lst : ∀ a vs, M.lst a = some vs → M'.lst a = some vs
theorem Le.refl {M : Mp} : Le M M := ⟨fun _ _ h => h, fun _ _ h => h, fun _ _ h => h⟩
theorem Le.trans {M M1 M2 : Mp} (a : Le M M1) (b : Le M1 M2) : Le M M2 := ⟨fun l x h => b.loc l x (a.loc l x h), fun l x h => b.tup l x (a.tup l x h), fun l x h => b.lst l x (a.lst l x h)⟩
theorem Ext.le {M M' : Mp} {H H' : Hp} (e : Ext M H M' H') : Le M M' := ⟨e.loc, e.tup, e.lst⟩
mutual
theorem RelD.le {G : Gx} {M M' : Mp} (e : Le M M') : ∀ {d : D} {v : V}, RelD G M d v → RelD G M' d v
  | .non, _, h => h
  | .bl _, _, h => h
  | .int _, _, h => h
  | .str _, _, h => h
  | .tup ds, _, h => by
    obtain ⟨a, vs, rfl, h1, h2⟩ := h
    exact ⟨a, vs, rfl, h1.imp (e.tup a vs) id, RelDs.le e h2⟩
  | .lst ds, _, h => by
    obtain ⟨a, vs, rfl, h1, h2⟩ := h
    exact ⟨a, vs, rfl, h1.imp (e.lst a vs) id, RelDs.le e h2⟩
  | .ref l, _, h => by
    obtain ⟨a, rfl, h1⟩ := h
    exact ⟨a, rfl, e.loc l a h1⟩
  | .cls _, _, h => h
  | .fn _, _, h => h
theorem RelDs.le {G : Gx} {M M' : Mp} (e : Le M M') : ∀ {ds : List D} {vs : List V}, RelDs G M ds vs → RelDs G M' ds vs
  | [], _, h => h
  | d :: ds, _, h => by
    obtain ⟨v, r, rfl, h1, h2⟩ := h
    exact ⟨v, r, rfl, RelD.le e h1, RelDs.le e h2⟩
end
def PostS (G : Gx) (M0 : Mp) (H0 : Hp) (W : WX) (M1 : Mp) (r : Sr) (D : Ends) : Prop := match r with
  | .next r S => ∀ M s H, Wst G M0 H0 M r S s H → Le M1 M → D.nx s H
  | .ret d r S => ∀ M v s H, Wst G M0 H0 M r S s H → Le M1 M → RelD G M d v → D.rt v H
  | .brk r S => ∀ M s H, Wst G M0 H0 M r S s H → Le M1 M → D.bk s H
  | .cont r S => ∀ M s H, Wst G M0 H0 M r S s H → Le M1 M → D.ct s H
  | .exc c fs r S => ∀ M s H C dx, Wst G M0 H0 M r S s H → Le M1 M → G.mg c = some (.ref C) → ExcR G M fs dx H → W (.ref C) dx s H
  | .bad => False
def tS (G : Gx) (M0 : Mp) (H0 : Hp) (W : WX) (d : DS) : TS := fun D s H => ∃ M r S, Wst G M0 H0 M r S s H ∧ PostS G M0 H0 W M (d r S) D
abbrev SS (X : Cx) (M0 : Mp) (H0 : Hp) (W : WX) (st : Stmt) (d : DS) : Prop := PS X st (tS (gx X) M0 H0 W d)
abbrev SSs (X : Cx) (M0 : Mp) (H0 : Hp) (W : WX) (st : List Stmt) (d : DS) : Prop := PSs X st (tS (gx X) M0 H0 W d)
theorem PostS.le {G : Gx} {M0 : Mp} {H0 : Hp} {W : WX} {M1 M2 : Mp} {r : Sr} {D : Ends} (h : PostS G M0 H0 W M1 r D) (e : Le M1 M2) : PostS G M0 H0 W M2 r D := by
  cases r with
  | next r S => exact fun M s H w l => h M s H w (e.trans l)
  | ret d r S => exact fun M v s H w l => h M v s H w (e.trans l)
  | brk r S => exact fun M s H w l => h M s H w (e.trans l)
  | cont r S => exact fun M s H w l => h M s H w (e.trans l)
  | exc c fs r S => exact fun M s H C dx w l => h M s H C dx w (e.trans l)
  | bad => exact h
/-- an expression's end within a statement -/
theorem PostS.toS {a b : Type} {G : Gx} {M0 : Mp} {H0 : Hp} {W : WX} {D : Ends} {R : Mp → Hp → a → b → Prop} {x : Rs a} {M : Mp} {r : Rho} {S : Store} {s : L2.St} {H : Hp} {f : a → Store → Sr} (en : Wst G M0 H0 M r S s H) (h : PostS G M0 H0 W M (x.toS r f) D) :
    Post G R W M H s x fun y H1 => ∃ M1 v S1, Wst G M0 H0 M1 r S1 s H1 ∧ Ext M H M1 H1 ∧ R M1 H1 v y ∧ PostS G M0 H0 W M1 (f v S1) D := by
  cases x with
  | ok v S1 => exact fun M1 y H1 e rh q => ⟨M1, v, S1, en.mono e rh, e, q, PostS.le h e.le⟩
  | exc c fs S1 => exact fun M1 H1 C dx e rh q1 q2 => h M1 s H1 C dx (en.mono e rh) e.le q1 q2
  | bad => exact h
end Dn

set_option Elab.async false
set_option linter.all false
set_option maxRecDepth 100000
set_option maxHeartbeats 4000000
/-! The rules: expressions. -/
namespace Dn
open PySem PySem.Spec PyProof.Rows L2
section
variable {X : Cx} {W : WX} {a b c e : Expr} {da db dc : DE} {pos : Pos}
/-! ### names, constants -/
theorem se_var {i : Nat} {x : Str} (hN : X.N[i]? = some x) (hv : Vis X.env.scope x) (hd : (x == ("__debug__" : Str)) = false := by decide) (hcd : (x == ("__classdict__" : Str)) = false := by decide) : SE X W (.Name x pos) (eVar i) := by
  refine (pe_var (i := i) hN hv hd hcd).dimp ?_
  rintro s H Q ⟨M, r, S, en, rh, p⟩
  unfold eVar at p
  cases q : r[i]? with
  | none => rw [q] at p; exact p.elim
  | some z =>
    rw [q] at p
    obtain ⟨v, h1, h2⟩ := en.sl i z q
    cases z with
    | val d =>
      obtain ⟨x, rfl, h3⟩ := h2
      exact ⟨x, h1, p M x H Ext.refl rh h3⟩
    | un => exact p.elim
    | own _ => exact p.elim
    | ownd _ => exact p.elim
theorem se_c {d : D} {v : V} (h : PE X e (tC v)) (k : ∀ M, RelD (gx X) M d v) : SE X W e (eC d) := by
  refine h.dimp ?_
  rintro s H Q ⟨M, r, S, en, rh, p⟩
  exact p M v H Ext.refl rh (k M)
theorem se_int {i j} : SE X W (.Constant (.int i) j pos) (eC (.int i)) := se_c pe_int fun _ => rfl
theorem se_bl {i j} : SE X W (.Constant (.bool i) j pos) (eC (.bl i)) := se_c pe_bl fun _ => rfl
theorem se_non {j} : SE X W (.Constant .none j pos) (eC .non) := se_c pe_non fun _ => rfl
theorem se_str {x j} : SE X W (.Constant (.str x) j pos) (eC (.str x)) := se_c pe_str fun _ => rfl
/-- a constant of the module's: a number, a text -/
theorem se_gint {x : Str} {i : Int} {t : Tok} (hg : Gl X x) (hm : X.mg x = some (.int i t)) (hd : (x == ("__debug__" : Str)) = false := by decide) : SE X W (.Name x pos) (eC (.int i)) := se_c (pe_glob (v := .int i) hg hm ⟨_, rfl⟩ hd) fun _ => rfl
/-! ### operators -/
theorem bind2 {a b : Type} {G : Gx} {M : Mp} {r : Rho} {S : Store} {H : Hp} {s : L2.St} {da db : DE} {R : Mp → Hp → a → b → Prop} {f : D → D → Store → Rs a} {Q : b → Hp → Prop} (en : EnvR G M H r s)
    (p : Post G R W M H s ((da r S).bind fun x S => (db r S).bind fun y S => f x y S) Q) :
    Post G (RD G) W M H s (da r S) fun v H1 => ∃ M1 S1, Ext M H M1 H1 ∧ RelH G M1 S1 H1 ∧ EnvR G M1 H1 r s ∧ Post G (RD G) W M1 H1 s (db r S1) fun u H2 => ∃ M2 x y S2, Ext M1 H1 M2 H2 ∧ RelH G M2 S2 H2 ∧ EnvR G M2 H2 r s ∧ RelD G M2 x v ∧ RelD G M2 y u ∧ Post G R W M2 H2 s (f x y S2) Q := by
  refine p.bind.imp fun v H1 h => ?_
  obtain ⟨M1, x, S1, e1, rh1, rd1, p1⟩ := h
  refine ⟨M1, S1, e1, rh1, en.mono e1, p1.bind.imp fun u H2 h => ?_⟩
  obtain ⟨M2, y, S2, e2, rh2, rd2, p2⟩ := h
  exact ⟨M2, x, y, S2, e2, rh2, (en.mono e1).mono e2, rd1.mono e2, rd2, p2⟩
/-- what an operator tells, over the heap -/
def OpS (G : Gx) (r : R2) (f : Store → D → D → Option D) : Prop := ∀ (M : Mp) (S : Store) (H : Hp) (x y z : D) (v u : V) (Q : VK), RelH G M S H → RelD G M x v → RelD G M y u → f S x y = some z →
  (∀ M' w H', Ext M H M' H' → RelH G M' S H' → RelD G M' z w → Q w H') → r v u H Q
theorem se_op {op : Operator} {r : R2} {f : Store → D → D → Option D} (ho : OpR X (binaryOp op) r) (hf : OpS (gx X) r f) (ha : SE X W a da) (hb : SE X W b db) : SE X W (.BinOp a op b pos) (eOp f da db) := by
  refine (pe_op ho ha hb).dimp ?_
  rintro s H Q ⟨M, r, S, en, rh, p⟩
  refine ⟨M, r, S, en, rh, (bind2 en p).imp fun v H1 h => ?_⟩
  obtain ⟨M1, S1, e1, rh1, en1, p1⟩ := h
  refine ⟨M1, r, S1, en1, rh1, p1.imp fun u H2 h => ?_⟩
  obtain ⟨M2, x, y, S2, e2, rh2, en2, rd1, rd2, p2⟩ := h
  cases q : f S2 x y with
  | none => rw [q] at p2; exact p2.elim
  | some z =>
    rw [q] at p2
    exact hf M2 S2 H2 x y z v u Q rh2 rd1 rd2 q p2
/-- a list's items of a heap -/
theorem listOf_ok {G : Gx} {M : Mp} {S : Store} {H : Hp} {x : D} {v : V} {xs : List D} (rh : RelH G M S H) (rd : RelD G M x v) (h : listOf S x = some xs) : ∃ p vs, v = .ref p ∧ SqL G.K H p vs ∧ RelDs G M xs vs := by
  cases x with
  | lst ds =>
    cases h
    obtain ⟨p, vs, rfl, h1, h2⟩ := rd
    exact ⟨p, vs, rfl, rh.sq h1, h2⟩
  | ref l =>
    obtain ⟨p, rfl, h1⟩ := rd
    dsimp only [listOf] at h
    cases q : S[l]? with
    | none => rw [q] at h; cases h
    | some o =>
      rw [q] at h
      cases o with
      | lst ds =>
        cases h
        obtain ⟨a, e1, vs, e2, e3⟩ := rh.obj l _ q
        rw [h1] at e1; cases e1
        exact ⟨p, vs, rfl, .inl (.inl e2), e3⟩
      | ins _ _ => cases h
      | dct _ => cases h
  | _ => cases h
theorem Rd.sql {K : PySem.W.Frag} {H : Hp} {p : Addr} {vs : List V} (h : Rd H p (.lst vs)) : SqL K H p vs := .inl h
/-- a new object is laid: a list that stays -/
theorem Ext.lstNew {G : Gx} {M : Mp} {S : Store} {H : Hp} {p : Addr} {ds : List D} {vs : List V} (rh : RelH G M S H) (hp : H p = none) (h : RelDs G M ds vs) :
    ∃ M', Ext M H M' (upd H p (.lst vs)) ∧ RelH G M' S (upd H p (.lst vs)) ∧ RelD G M' (.lst ds) (.ref p) := by
  have nt : M.tup p = none := by
    cases q : M.tup p with
    | none => rfl
    | some x => have := rh.tup p x q; rw [hp] at this; cases this
  have nl : M.lst p = none := by
    cases q : M.lst p with
    | none => rfl
    | some x =>
      rcases rh.lst p x q with z | ⟨o, z⟩ <;> (rw [hp] at z; cases z)
  have no : ∀ l, M.loc l ≠ some p := fun l q => by
    have hl := rh.dom l p q
    obtain ⟨a, e1, e2⟩ := rh.obj l S[l] (by simp [hl])
    rw [q] at e1; cases e1
    rw [hp] at e2
    cases hS : S[l] with
    | lst ds => rw [hS] at e2; obtain ⟨_, z, _⟩ := e2; cases z
    | ins c fs => rw [hS] at e2; obtain ⟨_, _, _, z, _⟩ := e2; cases z
    | dct _ => rw [hS] at e2; exact e2
  have ne : ∀ b o, H b = some o → b ≠ p := fun b o h q => by rw [q, hp] at h; cases h
  have ex : Ext M H ⟨M.loc, M.tup, fun a => if a = p then some vs else M.lst a⟩ (upd H p (.lst vs)) := by
    refine ⟨fun _ _ h => h, fun _ _ h => h, fun a x h => ?_, fun _ _ h => .inl h, fun a x h => ?_, fun a o h _ => ?_, fun a o h => ⟨o, ?_⟩⟩
    · have : a ≠ p := fun q => by rw [q, nl] at h; cases h
      show (if a = p then some vs else M.lst a) = some x
      rw [if_neg this]; exact h
    · by_cases q : a = p
      · exact .inr (by rw [q]; exact hp)
      · exact .inl (by rw [← h]; show M.lst a = (if a = p then some vs else M.lst a); rw [if_neg q])
    · rw [upd_ne (ne a o h)]; exact h
    · rw [upd_ne (ne a o h)]; exact h
  refine ⟨_, ex, ?_, p, vs, rfl, .inl (by show (if p = p then some vs else M.lst p) = some vs; rw [if_pos rfl]), h.mono ex⟩
  refine ⟨fun l o q => ?_, rh.dom, rh.inj, fun a x h => ?_, fun a x h => ?_, fun a x l h => ?_⟩
  · obtain ⟨a, e1, e2⟩ := rh.obj l o q
    have hne : a ≠ p := fun z => no l (by rw [← z]; exact e1)
    refine ⟨a, e1, ?_⟩
    rw [upd_ne hne]
    exact e2.mono ex
  · have := rh.tup a x h
    rw [upd_ne (ne a _ this)]; exact this
  · by_cases q : a = p
    · subst q
      have h' : (if a = a then some vs else M.lst a) = some x := h
      rw [if_pos rfl] at h'
      cases h'
      exact .inl upd_same
    · have h' : (if a = p then some vs else M.lst a) = some x := h
      rw [if_neg q] at h'
      rcases rh.lst a x h' with z | ⟨o, z⟩
      · exact .inl (by rw [upd_ne q]; exact z)
      · exact .inr ⟨o, by rw [upd_ne q]; exact z⟩
  · by_cases q : a = p
    · rw [q]; exact no l
    · have h' : (if a = p then some vs else M.lst a) = some x := h
      rw [if_neg q] at h'
      exact rh.apt a x l h'
/-- .. a tuple -/
theorem Ext.tupNew {G : Gx} {M : Mp} {S : Store} {H : Hp} {p : Addr} {ds : List D} {vs : List V} (rh : RelH G M S H) (hp : H p = none) (h : RelDs G M ds vs) :
    ∃ M', Ext M H M' (upd H p (.tup vs)) ∧ RelH G M' S (upd H p (.tup vs)) ∧ RelD G M' (.tup ds) (.ref p) := by
  have nt : M.tup p = none := by
    cases q : M.tup p with
    | none => rfl
    | some x => have := rh.tup p x q; rw [hp] at this; cases this
  have nl : M.lst p = none := by
    cases q : M.lst p with
    | none => rfl
    | some x =>
      rcases rh.lst p x q with z | ⟨o, z⟩ <;> (rw [hp] at z; cases z)
  have no : ∀ l, M.loc l ≠ some p := fun l q => by
    have hl := rh.dom l p q
    obtain ⟨a, e1, e2⟩ := rh.obj l S[l] (by simp [hl])
    rw [q] at e1; cases e1
    rw [hp] at e2
    cases hS : S[l] with
    | lst ds => rw [hS] at e2; obtain ⟨_, z, _⟩ := e2; cases z
    | ins c fs => rw [hS] at e2; obtain ⟨_, _, _, z, _⟩ := e2; cases z
    | dct _ => rw [hS] at e2; exact e2
  have ne : ∀ b o, H b = some o → b ≠ p := fun b o h q => by rw [q, hp] at h; cases h
  have ex : Ext M H ⟨M.loc, fun a => if a = p then some vs else M.tup a, M.lst⟩ (upd H p (.tup vs)) := by
    refine ⟨fun _ _ h => h, fun a x h => ?_, fun _ _ h => h, fun _ _ h => .inl h, fun _ _ h => .inl h, fun a o h _ => ?_, fun a o h => ⟨o, ?_⟩⟩
    · have : a ≠ p := fun q => by rw [q, nt] at h; cases h
      show (if a = p then some vs else M.tup a) = some x
      rw [if_neg this]; exact h
    · rw [upd_ne (ne a o h)]; exact h
    · rw [upd_ne (ne a o h)]; exact h
  refine ⟨_, ex, ?_, p, vs, rfl, .inl (by show (if p = p then some vs else M.tup p) = some vs; rw [if_pos rfl]), h.mono ex⟩
  refine ⟨fun l o q => ?_, rh.dom, rh.inj, fun a x h => ?_, fun a x h => ?_, rh.apt⟩
  · obtain ⟨a, e1, e2⟩ := rh.obj l o q
    have hne : a ≠ p := fun z => no l (by rw [← z]; exact e1)
    refine ⟨a, e1, ?_⟩
    rw [upd_ne hne]
    exact e2.mono ex
  · by_cases q : a = p
    · subst q
      have h' : (if a = a then some vs else M.tup a) = some x := h
      rw [if_pos rfl] at h'
      cases h'
      exact upd_same
    · have h' : (if a = p then some vs else M.tup a) = some x := h
      rw [if_neg q] at h'
      rw [upd_ne q]
      exact rh.tup a x h'
  · have q : a ≠ p := fun q => by rw [q, nl] at h; cases h
    rcases rh.lst a x h with z | ⟨o, z⟩
    · exact .inl (by rw [upd_ne q]; exact z)
    · exact .inr ⟨o, by rw [upd_ne q]; exact z⟩
/-- .. that is numbered: a list, an instance (its own dict at d) -/
theorem Ext.locNew {G : Gx} {M : Mp} {S : Store} {H : Hp} {p : Addr} {ds : List D} {vs : List V} (rh : RelH G M S H) (hp : H p = none) (h : RelDs G M ds vs) :
    ∃ M', Ext M H M' (upd H p (.lst vs)) ∧ RelH G M' (S ++ [.lst ds]) (upd H p (.lst vs)) ∧ RelD G M' (.ref S.length) (.ref p) := by
  have nt : M.tup p = none := by
    cases q : M.tup p with
    | none => rfl
    | some x => have := rh.tup p x q; rw [hp] at this; cases this
  have nl : M.lst p = none := by
    cases q : M.lst p with
    | none => rfl
    | some x =>
      rcases rh.lst p x q with z | ⟨o, z⟩ <;> (rw [hp] at z; cases z)
  have no : ∀ l, M.loc l ≠ some p := fun l q => by
    have hl := rh.dom l p q
    obtain ⟨a, e1, e2⟩ := rh.obj l S[l] (by simp [hl])
    rw [q] at e1; cases e1
    rw [hp] at e2
    cases hS : S[l] with
    | lst ds => rw [hS] at e2; obtain ⟨_, z, _⟩ := e2; cases z
    | ins c fs => rw [hS] at e2; obtain ⟨_, _, _, z, _⟩ := e2; cases z
    | dct _ => rw [hS] at e2; exact e2
  have ne : ∀ b o, H b = some o → b ≠ p := fun b o h q => by rw [q, hp] at h; cases h
  have nS : ∀ l x, M.loc l = some x → l ≠ S.length := fun l x h q => by have := rh.dom l x h; omega
  have ex : Ext M H ⟨fun l => if l = S.length then some p else M.loc l, M.tup, M.lst⟩ (upd H p (.lst vs)) := by
    refine ⟨fun l x h => ?_, fun _ _ h => h, fun _ _ h => h, fun l x h => ?_, fun _ _ h => .inl h, fun a o h _ => ?_, fun a o h => ⟨o, ?_⟩⟩
    · show (if l = S.length then some p else M.loc l) = some x
      rw [if_neg (nS l x h)]; exact h
    · have h' : (if l = S.length then some p else M.loc l) = some x := h
      by_cases q : l = S.length
      · rw [if_pos q] at h'; cases h'
        exact .inr hp
      · rw [if_neg q] at h'; exact .inl h'
    · rw [upd_ne (ne a o h)]; exact h
    · rw [upd_ne (ne a o h)]; exact h
  refine ⟨_, ex, ?_, p, rfl, by show (if S.length = S.length then some p else M.loc S.length) = some p; rw [if_pos rfl]⟩
  refine ⟨fun l o q => ?_, fun l x h => ?_, fun l k x h1 h2 => ?_, fun a x h => ?_, fun a x h => ?_, fun a x l h q => ?_⟩
  · by_cases hl : l = S.length
    · subst hl
      rw [List.getElem?_append_right (Nat.le_refl _)] at q
      simp at q
      subst q
      refine ⟨p, by show (if S.length = S.length then some p else M.loc S.length) = some p; rw [if_pos rfl], vs, upd_same, h.mono ex⟩
    · have hlt : l < S.length := by
        have := (List.getElem?_eq_some_iff.mp q).1
        simp at this; omega
      rw [List.getElem?_append_left hlt] at q
      obtain ⟨a, e1, e2⟩ := rh.obj l o q
      have hne : a ≠ p := fun z => no l (by rw [← z]; exact e1)
      refine ⟨a, by show (if l = S.length then some p else M.loc l) = some a; rw [if_neg hl]; exact e1, ?_⟩
      rw [upd_ne hne]
      exact e2.mono ex
  · have h' : (if l = S.length then some p else M.loc l) = some x := h
    by_cases q : l = S.length
    · rw [q]; simp
    · rw [if_neg q] at h'
      have := rh.dom l x h'
      simp; omega
  · have h1' : (if l = S.length then some p else M.loc l) = some x := h1
    have h2' : (if k = S.length then some p else M.loc k) = some x := h2
    by_cases q1 : l = S.length <;> by_cases q2 : k = S.length
    · rw [q1, q2]
    · rw [if_pos q1] at h1'; rw [if_neg q2] at h2'; cases h1'; exact absurd h2' (no k)
    · rw [if_neg q1] at h1'; rw [if_pos q2] at h2'; cases h2'; exact absurd h1' (no l)
    · rw [if_neg q1] at h1'; rw [if_neg q2] at h2'; exact rh.inj l k x h1' h2'
  · have := rh.tup a x h
    rw [upd_ne (ne a _ this)]; exact this
  · have q : a ≠ p := fun q => by rw [q, nl] at h; cases h
    rcases rh.lst a x h with z | ⟨o, z⟩
    · exact .inl (by rw [upd_ne q]; exact z)
    · exact .inr ⟨o, by rw [upd_ne q]; exact z⟩
  · have h' : (if l = S.length then some p else M.loc l) = some a := q
    by_cases z : l = S.length
    · rw [if_pos z] at h'; cases h'
      rw [nl] at h; cases h
    · rw [if_neg z] at h'
      exact rh.apt a x l h h'
end
end Dn

set_option Elab.async false
set_option linter.all false
set_option maxRecDepth 100000
set_option maxHeartbeats 4000000
/-! The rules: operators by values. -/
namespace Dn
open PySem PySem.Spec PyProof.Rows L2
/-! ### data -/
mutual
theorem P_lay : ∀ {k : Nat} {d : D}, D.pl k d = true → d.P.canLay0 = true ∧ d.P.depth ≤ k
  | _, .non, _ => by simp [D.P, PyData.canLay0, PyData.depth]
  | _, .bl _, _ => by simp [D.P, PyData.canLay0, PyData.depth]
  | _, .int _, _ => by simp [D.P, PyData.canLay0, PyData.depth]
  | _, .str x, h => by
    have h' : PyData.strOk x = true := by cases ‹Nat› <;> simpa [D.pl] using h
    simp [D.P, PyData.canLay0, PyData.depth, h']
  | 0, .tup _, h => by simp [D.pl] at h
  | 0, .lst _, h => by simp [D.pl] at h
  | k + 1, .tup xs, h => by
    have q := Ps_lay (k := k) (xs := xs) (by simpa [D.pl] using h)
    simp only [D.P, PyData.canLay0, PyData.depth]
    exact ⟨q.1, by omega⟩
  | k + 1, .lst xs, h => by
    have q := Ps_lay (k := k) (xs := xs) (by simpa [D.pl] using h)
    simp only [D.P, PyData.canLay0, PyData.depth]
    exact ⟨q.1, by omega⟩
  | k, .ref _, h => by cases k <;> simp [D.pl] at h
  | k, .cls _, h => by cases k <;> simp [D.pl] at h
  | k, .fn _, h => by cases k <;> simp [D.pl] at h
theorem Ps_lay : ∀ {k : Nat} {xs : List D}, D.pls k xs = true → PyData.canLayAll0 (D.Ps xs) = true ∧ PyData.depthAll (D.Ps xs) ≤ k
  | _, [], _ => by simp [D.Ps, PyData.canLayAll0, PyData.depthAll]
  | k, x :: xs, h => by
    have h' : D.pl k x = true ∧ D.pls k xs = true := by simpa [D.pls] using h
    have q1 := P_lay h'.1
    have q2 := Ps_lay h'.2
    simp only [D.Ps, PyData.canLayAll0, PyData.depthAll]
    exact ⟨by simp [q1.1, q2.1], by omega⟩
end
theorem shaped_of {d : D} (h : D.pl 64 d = true) : SeqAt.shaped d.P = true := by
  have q := P_lay h
  unfold SeqAt.shaped
  simp [q.1, q.2]
mutual
theorem eqv_of : ∀ {k m : Nat} (x y : D), D.pl k x = true → D.pl m y = true → PyData.eqv x.P y.P = eqD x y
  | _, _, .non, y, _, h => by cases y <;> simp_all [D.P, PyData.eqv, eqD, D.pl]
  | _, _, .bl _, y, _, h => by cases y <;> simp_all [D.P, PyData.eqv, eqD, D.pl]
  | _, _, .int _, y, _, h => by cases y <;> simp_all [D.P, PyData.eqv, eqD, D.pl]
  | _, _, .str _, y, _, h => by cases y <;> simp_all [D.P, PyData.eqv, eqD, D.pl]
  | 0, _, .tup _, _, h, _ => by simp [D.pl] at h
  | 0, _, .lst _, _, h, _ => by simp [D.pl] at h
  | k + 1, m, .tup xs, y, hx, hy => by
    cases y with
    | tup ys =>
      cases m with
      | zero => simp [D.pl] at hy
      | succ m =>
        simp only [D.P, PyData.eqv, eqD]
        exact eqvs_of xs ys (by simpa [D.pl] using hx) (by simpa [D.pl] using hy)
    | _ => cases m <;> simp_all [D.P, PyData.eqv, eqD, D.pl]
  | k + 1, m, .lst xs, y, hx, hy => by
    cases y with
    | lst ys =>
      cases m with
      | zero => simp [D.pl] at hy
      | succ m =>
        simp only [D.P, PyData.eqv, eqD]
        exact eqvs_of xs ys (by simpa [D.pl] using hx) (by simpa [D.pl] using hy)
    | _ => cases m <;> simp_all [D.P, PyData.eqv, eqD, D.pl]
  | k, _, .ref _, _, h, _ => by cases k <;> simp [D.pl] at h
  | k, _, .cls _, _, h, _ => by cases k <;> simp [D.pl] at h
  | k, _, .fn _, _, h, _ => by cases k <;> simp [D.pl] at h
theorem eqvs_of : ∀ {k m : Nat} (xs ys : List D), D.pls k xs = true → D.pls m ys = true → PyData.eqvAll (D.Ps xs) (D.Ps ys) = eqDs xs ys
  | _, _, [], [], _, _ => by simp [D.Ps, PyData.eqvAll, eqDs]
  | _, _, [], _ :: _, _, _ => by simp [D.Ps, PyData.eqvAll, eqDs]
  | _, _, _ :: _, [], _, _ => by simp [D.Ps, PyData.eqvAll, eqDs]
  | k, m, x :: xs, y :: ys, hx, hy => by
    have h1 : D.pl k x = true ∧ D.pls k xs = true := by simpa [D.pls] using hx
    have h2 : D.pl m y = true ∧ D.pls m ys = true := by simpa [D.pls] using hy
    simp only [D.Ps, PyData.eqvAll, eqDs]
    rw [eqv_of x y h1.1 h2.1, eqvs_of xs ys h1.2 h2.2]
end
mutual
/-- data as the layer reads it -/
theorem RelD.dp {G : Gx} {M : Mp} {S : Store} {H : Hp} (rh : RelH G M S H) : ∀ {k : Nat} {d : D} {v : V}, D.pl k d = true → RelD G M d v → Dp G.K H v d.P
  | _, .non, _, _, h => by cases (show _ = _ from h); exact .non
  | _, .bl b, _, _, h => by cases (show _ = _ from h); exact .bl b
  | _, .int i, _, _, h => by cases (show _ = _ from h); exact .int i
  | _, .str x, _, _, h => by cases (show _ = _ from h); exact .str x
  | 0, .tup _, _, h, _ => by simp [D.pl] at h
  | 0, .lst _, _, h, _ => by simp [D.pl] at h
  | k + 1, .tup xs, _, h, r => by
    obtain ⟨a, vs, rfl, h1, h2⟩ := r
    simp only [D.P]
    refine .tup (xs := vs) ?_ (RelDs.dps rh (k := k) (by simpa [D.pl] using h) h2)
    rcases h1 with h1 | h1
    · exact .inl (.inl (rh.tup a vs h1))
    · rcases h1 with z | z
      · rcases z with z | ⟨_, z⟩ <;> cases z
      · exact .inr z
  | k + 1, .lst xs, _, h, r => by
    obtain ⟨a, vs, rfl, h1, h2⟩ := r
    simp only [D.P]
    exact .lst (xs := vs) (rh.sq h1) (RelDs.dps rh (k := k) (by simpa [D.pl] using h) h2)
  | k, .ref _, _, h, _ => by cases k <;> simp [D.pl] at h
  | k, .cls _, _, h, _ => by cases k <;> simp [D.pl] at h
  | k, .fn _, _, h, _ => by cases k <;> simp [D.pl] at h
theorem RelDs.dps {G : Gx} {M : Mp} {S : Store} {H : Hp} (rh : RelH G M S H) : ∀ {k : Nat} {ds : List D} {vs : List V}, D.pls k ds = true → RelDs G M ds vs → DpAll G.K H vs (D.Ps ds)
  | _, [], _, _, h => by cases (show _ = _ from h); exact .nil
  | k, x :: xs, _, h, r => by
    obtain ⟨v, vs, rfl, h1, h2⟩ := r
    have h' : D.pl k x = true ∧ D.pls k xs = true := by simpa [D.pls] using h
    simp only [D.Ps]
    exact .cons (RelD.dp rh h'.1 h1) (RelDs.dps rh h'.2 h2)
end
/-- a tuple of a heap -/
theorem tup_ok {G : Gx} {M : Mp} {S : Store} {H : Hp} {v : V} {xs : List D} (rh : RelH G M S H) (rd : RelD G M (.tup xs) v) : ∃ p vs, v = .ref p ∧ SqT G.K H p vs ∧ RelDs G M xs vs := by
  obtain ⟨a, vs, rfl, h1, h2⟩ := rd
  refine ⟨a, vs, rfl, ?_, h2⟩
  rcases h1 with h1 | h1
  · exact .inl (.inl (rh.tup a vs h1))
  · rcases h1 with z | z
    · rcases z with z | ⟨_, z⟩ <;> cases z
    · exact .inr z
theorem len_line {G : Gx} {M : Mp} {ds es : List D} {vs ws : List V} (h1 : RelDs G M ds vs) (h2 : RelDs G M es ws) (h : ds.length + es.length ≤ sizeLine) : vs.length + ws.length ≤ sizeLine := by
  rw [← h1.len, ← h2.len]; exact h
section
variable {X : Cx}
/-! ### + of lists wherever they stand, of tuples, the left one empty -/
def rCatQ (K : PySem.W.Frag) : R2 := fun x y H Q => ∃ l b xs zs, x = .ref l ∧ y = .ref b ∧ SqL K H l xs ∧ SqL K H b zs ∧ xs.length + zs.length ≤ sizeLine ∧ ∀ p, H p = none → Q (.ref p) (upd H p (.lst (xs ++ zs)))
def rCatT0 (K : PySem.W.Frag) : R2 := fun x y H Q => ∃ a b ys, x = .ref a ∧ y = .ref b ∧ SqT K H a [] ∧ SqT K H b ys ∧ Q (.ref b) H
theorem op_catT0 : OpR X (binaryOp .Add) (rCatT0 X.K) := by
  intro pins s z H x y v u Q I rx ry h
  obtain ⟨a, b, ys, rfl, rfl, ha, hb, q⟩ := h
  cases rx
  cases ry
  obtain ⟨its, r1, p1, _⟩ := I.tuple ha
  obtain ⟨its2, r2, p2, _⟩ := I.tuple hb
  cases r1
  obtain ⟨⟨cls, dd, data, sl⟩, ho, hc, n, hd⟩ := p1
  obtain ⟨⟨cls2, dd2, data2, sl2⟩, ho2, hc2, n2, hd2⟩ := p2
  simp only at hc hd hc2 hd2
  subst hc hd hc2 hd2
  exact concat_meets ⟨_, ho, rfl⟩ ⟨_, ho2, rfl⟩ noFill_tuple_add seq_tuple_add PySem.F.slot_tuple_add PySem.F.entry_tuple_add (PySem.F.args_tuple_add_2 _ _)
    (tuple_addW0 a b #[] its2.toArray n n2 dd dd2 sl sl2 (by simp)) ⟨ho, ho2, .ref b, H, I, rfl, q⟩
theorem op_catQ : OpR X (binaryOp .Add) (rCatQ X.K) := by
  intro pins s z H x y v u Q I rx ry h
  obtain ⟨l, b, xs, zs, rfl, rfl, hH, hB, hz, q⟩ := h
  cases rx
  cases ry
  obtain ⟨its, r, ⟨o, n, ho, hc, hd, hdt⟩, _⟩ := I.list hH
  obtain ⟨its2, r2, ⟨o2, n2, ho2, hc2, hd2, hdt2⟩, _⟩ := I.list hB
  have e := ho
  have e2 := ho2
  have hl := r.length
  have hl2 := r2.length
  have ea : its.toArray ++ its2.toArray = (its ++ its2).toArray := by simp
  obtain ⟨cls, dd, data, sl⟩ := o
  obtain ⟨cls2, dd2, data2, sl2⟩ := o2
  simp only at hc hd hdt hc2 hd2 hdt2
  subst hc hd hdt hc2 hd2 hdt2
  refine concat_meets ⟨_, ho, rfl⟩ ⟨_, ho2, rfl⟩ noFill_list_add seq_list_add PySem.F.slot_list_add PySem.F.entry_list_add (PySem.F.args_list_add_2 _ _)
    (list_addW l b its.toArray its2.toArray n n2 none none sl sl2 (by rw [List.size_toArray, List.size_toArray]; omega)) ⟨ho, ho2, ?_⟩
  rw [ea]
  exact ⟨.ref _, _, I.lnew (t' := s.toks) (r.append r2) (by rw [List.length_append]; omega), rfl, q _ I.fresh⟩
end
end Dn

set_option Elab.async false
set_option linter.all false
set_option maxRecDepth 100000
set_option maxHeartbeats 4000000
/-! The rules: operators, comparisons, tests, arguments, displays, calls. -/
namespace Dn
open PySem PySem.Spec PyProof.Rows L2
section
variable {X : Cx}
def rAddA (K : PySem.W.Frag) : R2 := fun x y H Q => rI0 (fun i j => .int (i + j)) x y H Q ∨ (∃ i j, x = .str i ∧ y = .str j ∧ i.length + j.length ≤ sizeLine ∧ Q (.str (i ++ j)) H) ∨ rCatT K x y H Q ∨ rCatT0 K x y H Q ∨ rCatQ K x y H Q
theorem op_addA : OpR X (binaryOp .Add) (rAddA X.K) := op_add.or (op_add_str.or (op_catT.or (op_catT0.or op_catQ)))
theorem ops_add {G : Gx} : OpS G (rAddA G.K) opAdd := by
  intro M S H x y z v u Q rh rx ry h k
  have lists : ∀ {xs ys : List D}, listOf S x = some xs → listOf S y = some ys → xs.length + ys.length ≤ sizeLine → (D.lst (xs ++ ys)) = z → rCatQ G.K v u H Q := by
    intro xs ys h1 h2 hl e
    obtain ⟨p, vs, rfl, p1, p2⟩ := listOf_ok rh rx h1
    obtain ⟨q, ws, rfl, q1, q2⟩ := listOf_ok rh ry h2
    refine ⟨p, q, vs, ws, rfl, rfl, p1, q1, len_line p2 q2 hl, fun a ha => ?_⟩
    obtain ⟨M', e1, e2, e3⟩ := Ext.lstNew rh ha (p2.append q2)
    exact k M' _ _ e1 e2 (e ▸ e3)
  have gen : (match listOf S x, listOf S y with
    | some xs, some ys => if xs.length + ys.length ≤ sizeLine then some (D.lst (xs ++ ys)) else none
    | _, _ => none) = some z → rAddA G.K v u H Q := by
    intro h
    cases h1 : listOf S x with
    | none => rw [h1] at h; cases h
    | some xs =>
      cases h2 : listOf S y with
      | none => rw [h1, h2] at h; cases h
      | some ys =>
        rw [h1, h2] at h
        dsimp only at h
        split at h
        · rename_i hl
          exact .inr (.inr (.inr (.inr (lists h1 h2 hl (Option.some.inj h)))))
        · cases h
  unfold opAdd at h
  split at h
  · rename_i i j
    cases h
    cases (show _ = _ from rx)
    cases (show _ = _ from ry)
    exact .inl ⟨i, j, rfl, rfl, k M _ H Ext.refl rh rfl⟩
  · rename_i a b
    cases (show _ = _ from rx)
    cases (show _ = _ from ry)
    split at h
    · rename_i hl
      cases h
      exact .inr (.inl ⟨a, b, rfl, rfl, hl, k M _ H Ext.refl rh rfl⟩)
    · cases h
  · rename_i xs ys
    split at h
    · rename_i hl
      cases h
      obtain ⟨p, vs, rfl, p1, p2⟩ := tup_ok rh rx
      obtain ⟨q, ws, rfl, q1, q2⟩ := tup_ok rh ry
      by_cases hv : vs = []
      · subst hv
        have hx : xs = [] := by
          have := p2.len
          simpa using this
        subst hx
        exact .inr (.inr (.inr (.inl ⟨p, q, ws, rfl, rfl, p1, q1, k M _ H Ext.refl rh (by simpa using ry)⟩)))
      · refine .inr (.inr (.inl ⟨p, q, vs, ws, rfl, rfl, p1, q1, hv, len_line p2 q2 hl, fun e => ?_, fun _ a ha => ?_⟩))
        · subst e
          have hy : ys = [] := by
            have := q2.len
            simpa using this
          subst hy
          exact k M _ H Ext.refl rh (by simpa using rx)
        · obtain ⟨M', e1, e2, e3⟩ := Ext.tupNew rh ha (p2.append q2)
          exact k M' _ _ e1 e2 e3
    · cases h
  · exact gen h
/-- k * a list, whatever its object's dict and slots -/
theorem rmul_listW (a : Int) (t : Tok) (l : Addr) (vs : Array Value) (n : Nat) (dd : Option Addr) (sl : Array (Option Value)) :
    Meets (Builtin.«int.__rmul__» ⟨[.int a t, .ref l], []⟩) (fun _ R s => s.heap.get? l = some { cls := .type "list", dict := dd, data := .seq vs n, slots := sl } ∧ R (.ok (.ret Value.notImplemented)) s) :=
  .of_wp fun prog w A R s h => by
    obtain ⟨hp, g, d, tk, os⟩ := s
    obtain ⟨hl, h⟩ := h
    wp_walk using wpAny_loadPart' hl
    exact ⟨_, rfl, h⟩
theorem list_mulW (l : Addr) (vs : Array Value) (n : Nat) (dd : Option Addr) (sl : Array (Option Value)) (x : Int) (u : Tok) (f0 : ¬(!Builtin.List.listFitsIndex x) = true) (f1 : ¬vs.size * x.toNat > (2 ^ 63 - 1) / 8) (f2 : ¬Builtin.List.listTooLong (vs.size * x.toNat) = true) :
    Meets (Builtin.«list.__mul__» ⟨[.ref l, .int x u], []⟩) (fun _ R s => s.heap.get? l = some { cls := .type "list", dict := dd, data := .seq vs n, slots := sl } ∧
      R (.ok (.ret (Value.ref s.heap.objs.size))) { s with heap := s.heap.push { cls := Value.type "list", data := Data.seq (List.foldl (fun x1 x2 => x1 ++ x2) #[] (List.replicate (if vs.isEmpty = true then 0 else x.toNat) vs)) }, toks := s.toks }) :=
  .of_wp fun prog w A R s h => by
    obtain ⟨hp, g, d, tk, os⟩ := s
    obtain ⟨hl, h⟩ := h
    have hz := PySem.AutoListH.joined_fits f2
    wp_walk using wpAny_loadPart' hl
    refine wpAny_ite_false (decide_eq_false (Nat.not_lt.mpr hz)) ?_
    wp_walk using wpAny_loadPart' hl
    exact ⟨_, rfl, h⟩
def rRepR (K : PySem.W.Frag) : R2 := fun x y H Q => ∃ l k xs, x = .ref l ∧ y = .int k ∧ SqL K H l xs ∧ -(2 ^ 63) ≤ k ∧ k < 2 ^ 63 ∧ xs.length * k.toNat ≤ sizeLine ∧
  ∀ p, H p = none → Q (.ref p) (upd H p (.lst (List.replicate k.toNat xs).flatten))
theorem op_repR : OpR X (binaryOp .Mult) (rRepR X.K) := by
  intro pins s z H x y v u Q I rx ry h
  obtain ⟨l, k, xs, rfl, rfl, hH, h1, h2, hz, q⟩ := h
  cases rx
  obtain ⟨t, rfl⟩ := ry
  obtain ⟨its, r, ⟨⟨cls, dd, data, sl⟩, n, e, hc, hdn, hdt⟩, zl⟩ := I.list hH
  simp only at hc hdn hdt
  subst hc hdn hdt
  have hl := r.length
  have hlen : its.toArray.size * k.toNat ≤ sizeLine := by rw [List.size_toArray, ← hl]; exact hz
  have hcap : ¬ its.toArray.size * k.toNat > (2 ^ 63 - 1) / 8 := by
    have : (sizeLine : Nat) ≤ (2 ^ 63 - 1) / 8 := by decide
    omega
  have hfit : ¬ (!Builtin.List.listFitsIndex k) = true := by
    rw [fitsIndex_both h1 h2]
    exact Bool.false_ne_true
  have hlong : ¬ Builtin.List.listTooLong (its.toArray.size * k.toNat) = true := by
    rw [notLongL hlen]
    exact Bool.false_ne_true
  have hnew : List.foldl (fun x1 x2 => x1 ++ x2) #[] (List.replicate (if its.toArray.isEmpty = true then 0 else k.toNat) its.toArray) = (List.replicate k.toNat its).flatten.toArray := by
    have f0 : ∀ m : Nat, List.foldl (fun x1 x2 => x1 ++ x2) #[] (List.replicate m its.toArray) = (List.replicate m its).flatten.toArray := fun m => by
      have w := foldl_rep its m []
      rw [List.nil_append] at w
      exact w
    rw [f0]
    cases its with
    | nil => simp
    | cons a r' => rw [if_neg (by simp)]
  refine wpAny_binaryOp_repeat_ref (T := "list") (U := "int") (by decide) ⟨_, e, rfl⟩ (fun s' => typeIs_int s' k t) noFill_list_mul F.fills_int_mul F.slot_int_rmul repeat_list F.slot_int_index.lookup
    (call_meets F.slot_int_rmul (typeIs_int s k t) F.entry_int_rmul (F.args_int_rmul_2 _ _) (rmul_listW k t l its.toArray n none sl)
      ⟨e, rfl, ⟨_, e, rfl⟩, call_meets F.slot_list_mul ⟨_, e, rfl⟩ F.entry_list_mul (F.args_list_mul_2 _ _) (list_mulW l its.toArray n none sl k t hfit hcap hlong) ⟨e, ?_⟩⟩)
  rw [hnew]
  exact ⟨.ref _, _, I.lnew (t' := s.toks) (r.rep k.toNat) (by rw [PyProof.Rows.lm_len_rep_flat, Nat.mul_comm]; exact hz), rfl, q _ I.fresh⟩
def rMulA (K : PySem.W.Frag) : R2 := fun x y H Q => rI CMul (fun i j => .int (i * j)) x y H Q ∨ rRepR K x y H Q
theorem op_mulA : OpR X (binaryOp .Mult) (rMulA X.K) := op_mul.or op_repR
theorem ops_mul {G : Gx} : OpS G (rMulA G.K) opMul := by
  intro M S H x y z v u Q rh rx ry h k
  unfold opMul at h
  split at h
  · rename_i i j
    split at h
    · rename_i hm
      cases h
      cases (show _ = _ from rx)
      cases (show _ = _ from ry)
      refine .inl ⟨i, j, rfl, rfl, ?_, k M _ H Ext.refl rh rfl⟩
      unfold mulOk at hm
      simpa [CMul] using hm
    · cases h
  · rename_i j _
    cases (show _ = _ from ry)
    cases h1 : listOf S x with
    | none => rw [h1] at h; cases h
    | some xs =>
      rw [h1] at h
      dsimp only at h
      split at h
      · rename_i hl
        cases h
        obtain ⟨p, vs, rfl, p1, p2⟩ := listOf_ok rh rx h1
        simp only [Bool.and_eq_true, decide_eq_true_eq] at hl
        refine .inr ⟨p, j, vs, rfl, rfl, p1, hl.1.1, hl.1.2, by rw [← p2.len]; exact hl.2, fun a ha => ?_⟩
        obtain ⟨M', e1, e2, e3⟩ := Ext.lstNew rh ha (p2.repl j.toNat)
        exact k M' _ _ e1 e2 e3
      · cases h
  · cases h
theorem ops_sub {G : Gx} : OpS G (rI0 fun i j => .int (i - j)) (fun _ => opSub) := by
  intro M S H x y z v u Q rh rx ry h k
  dsimp only [opSub] at h
  split at h
  · cases h
    cases (show _ = _ from rx)
    cases (show _ = _ from ry)
    exact ⟨_, _, rfl, rfl, k M _ H Ext.refl rh rfl⟩
  · cases h
theorem ops_div {G : Gx} : OpS G (rI CDiv fun i j => .int (i / j)) (fun _ => opDiv) := by
  intro M S H x y z v u Q rh rx ry h k
  dsimp only [opDiv] at h
  split at h
  · split at h
    · rename_i hc
      cases h
      cases (show _ = _ from rx)
      cases (show _ = _ from ry)
      exact ⟨_, _, rfl, rfl, by simpa [CDiv] using hc, k M _ H Ext.refl rh rfl⟩
    · cases h
  · cases h
theorem ops_mod {G : Gx} : OpS G (rI (fun _ j => 0 < j) fun i j => .int (i % j)) (fun _ => opMod) := by
  intro M S H x y z v u Q rh rx ry h k
  dsimp only [opMod] at h
  split at h
  · split at h
    · rename_i hc
      cases h
      cases (show _ = _ from rx)
      cases (show _ = _ from ry)
      exact ⟨_, _, rfl, rfl, by simpa using hc, k M _ H Ext.refl rh rfl⟩
    · cases h
  · cases h
theorem ops_pow {G : Gx} : OpS G (rI CPow fun i j => .int (i ^ j.toNat)) (fun _ => opPow) := by
  intro M S H x y z v u Q rh rx ry h k
  dsimp only [opPow] at h
  split at h
  · split at h
    · rename_i hc
      cases h
      cases (show _ = _ from rx)
      cases (show _ = _ from ry)
      simp only [Bool.and_eq_true, decide_eq_true_eq] at hc
      exact ⟨_, _, rfl, rfl, ⟨hc.1.1, hc.1.2, hc.2⟩, k M _ H Ext.refl rh rfl⟩
    · cases h
  · cases h
/-! ### comparisons -/
def OpB (G : Gx) (r : R2) (f : Store → D → D → Option Bool) : Prop := ∀ (M : Mp) (S : Store) (H : Hp) (x y : D) (b : Bool) (v u : V) (Q : VK), RelH G M S H → RelD G M x v → RelD G M y u → f S x y = some b → Q (.bl b) H → r v u H Q
theorem dp_flat {G : Gx} {M : Mp} {S : Store} {H : Hp} (rh : RelH G M S H) {k : Nat} {x : D} {v : V} (h : D.pl k (flatL S x) = true) (r : RelD G M x v) : Dp G.K H v (flatL S x).P := by
  cases x with
  | ref l =>
    dsimp only [flatL] at h ⊢
    cases q : S[l]? with
    | none => rw [q] at h; cases k <;> simp [D.pl] at h
    | some o =>
      rw [q] at h
      cases o with
      | lst xs =>
        dsimp only at h ⊢
        obtain ⟨a, rfl, e1⟩ := r
        obtain ⟨b, e2, vs, e3, e4⟩ := rh.obj l _ q
        rw [e1] at e2; cases e2
        cases k with
        | zero => simp [D.pl] at h
        | succ k =>
          simp only [D.P]
          exact .lst (xs := vs) (.inl (.inl e3)) (RelDs.dps rh (k := k) (by simpa [D.pl] using h) e4)
      | ins _ _ => cases k <;> simp [D.pl] at h
      | dct _ => cases k <;> simp [D.pl] at h
  | _ => exact RelD.dp rh h r
theorem opb_eq {G : Gx} : OpB G (rEqD G.K) cmpEq := by
  intro M S H x y b v u Q rh rx ry h k
  unfold cmpEq at h
  split at h
  · rename_i hc
    simp only [Bool.and_eq_true] at hc
    cases h
    refine ⟨_, _, dp_flat rh hc.1 rx, dp_flat rh hc.2 ry, shaped_of hc.1, shaped_of hc.2, ?_⟩
    rw [eqv_of _ _ hc.1 hc.2]
    exact k
  · cases h
theorem opb_ne {G : Gx} : OpB G (rNeD G.K) cmpNe := by
  intro M S H x y b v u Q rh rx ry h k
  unfold cmpNe at h
  split at h
  · rename_i hc
    simp only [Bool.and_eq_true] at hc
    cases h
    refine ⟨_, _, dp_flat rh hc.1 rx, dp_flat rh hc.2 ry, shaped_of hc.1, shaped_of hc.2, ?_⟩
    rw [eqv_of _ _ hc.1 hc.2]
    exact k
  · cases h
theorem opb_int {G : Gx} (p : Int → Int → Bool) : OpB G (rI0 fun i j => .bl (p i j)) (fun _ => cmpI p) := by
  intro M S H x y b v u Q rh rx ry h k
  dsimp only [cmpI] at h
  split at h
  · cases h
    cases (show _ = _ from rx)
    cases (show _ = _ from ry)
    exact ⟨_, _, rfl, rfl, k⟩
  · cases h
/-- < of data that are alike -/
def rLtD (K : PySem.W.Frag) : R2 := fun x y H Q => ∃ d e, Dp K H x d ∧ Dp K H y e ∧ d.depth ≤ 64 ∧ PySem.W.alike d e = true ∧ d ≠ .none ∧ Q (.bl (PySem.W.dataLt d e)) H
theorem op_ltD (hu : X.A.units + 64 < cLine) : OpR X (compareOp .Lt) (rLtD X.K) := by
  intro pins s z H x y v u Q I rx ry h
  obtain ⟨d, e, hd, he, h1, h2, h3, q⟩ := h
  obtain ⟨as, r1⟩ := Dp.reads I d x v hd rx
  obtain ⟨bs, r2⟩ := Dp.reads I e y u he ry
  exact PySem.W.rcLt_alike d e X.A s v u as bs r1 r2 h2 h3 (by omega) X.prog X.w X.xe _ ⟨.bl _, H, I, rfl, q⟩
theorem opb_lt {G : Gx} : OpB G (rLtD G.K) (fun _ => cmpLt) := by
  intro M S H x y b v u Q rh rx ry h k
  dsimp only [cmpLt] at h
  split at h
  · rename_i hc
    cases h
    unfold ltOk at hc
    simp only [Bool.and_eq_true] at hc
    obtain ⟨⟨⟨h1, h2⟩, h3⟩, h4⟩ := hc
    refine ⟨_, _, RelD.dp rh h1 rx, RelD.dp rh h2 ry, (P_lay h1).2, h3, ?_, k⟩
    cases x <;> simp_all [D.P]
  · cases h
theorem se_cmp {op : CmpOp} {r : R2} {f : Store → D → D → Option Bool} {W : WX} {a b : Expr} {da db : DE} {pos : Pos} (ho : OpR X (compareOp op) r) (hf : OpB (gx X) r f) (ha : SE X W a da) (hb : SE X W b db) (hm : behindInMarks op b = false) :
    SE X W (.Compare a [op] [b] pos) (eCmp f da db) := by
  refine (pe_cmpR ho ha hb hm).dimp ?_
  rintro s H Q ⟨M, r, S, en, rh, p⟩
  refine ⟨M, r, S, en, rh, (bind2 en p).imp fun v H1 h => ?_⟩
  obtain ⟨M1, S1, e1, rh1, en1, p1⟩ := h
  refine ⟨M1, r, S1, en1, rh1, p1.imp fun u H2 h => ?_⟩
  obtain ⟨M2, x, y, S2, e2, rh2, en2, rd1, rd2, p2⟩ := h
  cases q : f S2 x y with
  | none => rw [q] at p2; exact p2.elim
  | some z =>
    rw [q] at p2
    exact hf M2 S2 H2 x y z v u Q rh2 rd1 rd2 q (p2 M2 _ H2 Ext.refl rh2 rfl)
/-- x is None, x is not None -/
theorem se_isN {W : WX} {a : Expr} {da : DE} {pos pos' : Pos} {j} (ha : SE X W a da) : SE X W (.Compare a [.Is] [.Constant .none j pos'] pos) (eCmp1 cmpIsN da) := by
  refine (pe_cmp (pc_isN ha) rfl).dimp ?_
  rintro s H Q ⟨M, r, S, en, rh, p⟩
  refine ⟨M, r, S, en, rh, p.bind.imp fun v H1 h => ?_⟩
  obtain ⟨M1, x, S1, e1, rh1, rd1, p1⟩ := h
  have e : ((cmpIsN x).map D.bl) = some (D.bl (decide (v = .non))) := by
    cases x with
    | non => cases (show _ = _ from rd1); rfl
    | bl _ => cases (show _ = _ from rd1); rfl
    | int _ => cases (show _ = _ from rd1); rfl
    | str _ => cases (show _ = _ from rd1); rfl
    | tup _ => obtain ⟨_, _, rfl, _⟩ := rd1; rfl
    | lst _ => obtain ⟨_, _, rfl, _⟩ := rd1; rfl
    | ref _ => obtain ⟨_, rfl, _⟩ := rd1; rfl
    | cls _ => obtain ⟨_, rfl, _⟩ := rd1; rfl
    | fn _ => obtain ⟨_, rfl, _⟩ := rd1; rfl
  rw [e] at p1
  exact p1 M1 _ H1 Ext.refl rh1 rfl
theorem se_notN {W : WX} {a : Expr} {da : DE} {pos pos' : Pos} {j} (ha : SE X W a da) : SE X W (.Compare a [.IsNot] [.Constant .none j pos'] pos) (eCmp1 (fun x => (cmpIsN x).map (!·)) da) := by
  refine (pe_cmp (pc_notN ha) rfl).dimp ?_
  rintro s H Q ⟨M, r, S, en, rh, p⟩
  refine ⟨M, r, S, en, rh, p.bind.imp fun v H1 h => ?_⟩
  obtain ⟨M1, x, S1, e1, rh1, rd1, p1⟩ := h
  have e : (((cmpIsN x).map (!·)).map D.bl) = some (D.bl (!decide (v = .non))) := by
    cases x with
    | non => cases (show _ = _ from rd1); rfl
    | bl _ => cases (show _ = _ from rd1); rfl
    | int _ => cases (show _ = _ from rd1); rfl
    | str _ => cases (show _ = _ from rd1); rfl
    | tup _ => obtain ⟨_, _, rfl, _⟩ := rd1; rfl
    | lst _ => obtain ⟨_, _, rfl, _⟩ := rd1; rfl
    | ref _ => obtain ⟨_, rfl, _⟩ := rd1; rfl
    | cls _ => obtain ⟨_, rfl, _⟩ := rd1; rfl
    | fn _ => obtain ⟨_, rfl, _⟩ := rd1; rfl
  rw [e] at p1
  exact p1 M1 _ H1 Ext.refl rh1 rfl
/-- a chain of two comparisons -/
theorem chain_t {G : Gx} {r r' : R2} {f g : Store → D → D → Option Bool} {W : WX} {da db dc : DE} {s : L2.St} {H : Hp} {Q : VK} (hf : OpB G r f) (hg : OpB G r' g) (h : tE G W (eChain f g da db dc) s H Q) : tChain r r' (tE G W da) (tE G W db) (tE G W dc) s H Q := by
  obtain ⟨M, r, S, en, rh, p⟩ := h
  refine ⟨M, r, S, en, rh, (bind2 en p).imp fun v H1 h => ?_⟩
  obtain ⟨M1, S1, e1, rh1, en1, p1⟩ := h
  refine ⟨M1, r, S1, en1, rh1, p1.imp fun u H2 h => ?_⟩
  obtain ⟨M2, x, y, S2, e2, rh2, en2, rd1, rd2, p2⟩ := h
  cases q : f S2 x y with
  | none => rw [q] at p2; exact p2.elim
  | some z =>
    rw [q] at p2
    refine hf M2 S2 H2 x y z v u _ rh2 rd1 rd2 q ⟨z, rfl, ?_⟩
    cases z with
    | false => exact p2 M2 _ H2 Ext.refl rh2 rfl
    | true =>
      refine ⟨M2, r, S2, en2, rh2, (Post.bind (R := RD G) p2).imp fun w H3 h => ?_⟩
      obtain ⟨M3, zz, S3, e3, rh3, rd3, p3⟩ := h
      cases q3 : g S3 y zz with
      | none => rw [q3] at p3; exact p3.elim
      | some z3 =>
        rw [q3] at p3
        exact hg M3 S3 H3 y zz z3 u w Q rh3 (rd2.mono e3) rd3 q3 (p3 M3 _ H3 Ext.refl rh3 rfl)
/-! ### tests -/
variable {W : WX} {a b c e : Expr} {da db dc : DE} {ta tb : DT} {pos : Pos} {es : List Expr}
theorem se_chain {op op' : CmpOp} {r r' : R2} {f g : Store → D → D → Option Bool} {W : WX} {a b c : Expr} {da db dc : DE} {pos : Pos} (hf : OpB (gx X) r f) (hg : OpB (gx X) r' g)
    (hm : PE X (.Compare a [op, op'] [b, c] pos) (tChain r r' (tE (gx X) W da) (tE (gx X) W db) (tE (gx X) W dc))) :
    SE X W (.Compare a [op, op'] [b, c] pos) (eChain f g da db dc) := hm.dimp fun _ _ _ => chain_t hf hg
theorem st_val (h : SE X W a da) (he : ∀ whole, isTrue a X.env whole = (do let v ← whole; standAt a.pos; holding [v] (truthy v))) : ST X W a (tOfB da) := by
  refine (pt_val h he).dimp ?_
  rintro s H Q ⟨M, r, S, en, rh, p⟩
  refine ⟨M, r, S, en, rh, p.bind.imp fun v H1 h => ?_⟩
  obtain ⟨M1, x, S1, e1, rh1, rd1, p1⟩ := h
  cases x with
  | bl b =>
    cases (show _ = _ from rd1)
    exact ⟨b, rfl, p1 M1 b H1 Ext.refl rh1 rfl⟩
  | _ => exact p1.elim
/-- a comparison as a test -/
theorem st_cmp {op : CmpOp} {r : R2} {f : Store → D → D → Option Bool} (ho : OpR X (compareOp op) r) (hf : OpB (gx X) r f) (ha : SE X W a da) (hb : SE X W b db) (hm : behindInMarks op b = false) : ST X W (.Compare a [op] [b] pos) (tOfB (eCmp f da db)) := by
  refine (pt_cmpR ho ha hb hm).dimp ?_
  rintro s H Q ⟨M, r, S, en, rh, p⟩
  have p' : Post (gx X) RB W M H s ((da r S).bind fun x S => (db r S).bind fun y S => Rs.ofO (f S x y) S) Q := by
    have e : tOfB (eCmp f da db) r S = ((da r S).bind fun x S => (db r S).bind fun y S => Rs.ofO (f S x y) S) := by
      unfold tOfB eCmp
      cases da r S with
      | ok x S1 =>
        dsimp only [Rs.bind]
        cases db r S1 with
        | ok y S2 =>
          dsimp only [Rs.bind]
          cases f S2 x y <;> rfl
        | exc _ _ _ => rfl
        | bad => rfl
      | exc _ _ _ => rfl
      | bad => rfl
    rw [← e]
    exact p
  refine ⟨M, r, S, en, rh, (bind2 en p').imp fun v H1 h => ?_⟩
  obtain ⟨M1, S1, e1, rh1, en1, p1⟩ := h
  refine ⟨M1, r, S1, en1, rh1, p1.imp fun u H2 h => ?_⟩
  obtain ⟨M2, x, y, S2, e2, rh2, en2, rd1, rd2, p2⟩ := h
  cases q : f S2 x y with
  | none => rw [q] at p2; exact p2.elim
  | some z =>
    rw [q] at p2
    exact hf M2 S2 H2 x y z v u _ rh2 rd1 rd2 q ⟨z, rfl, p2 M2 z H2 Ext.refl rh2 rfl⟩
theorem st_isN {pos' : Pos} {j} (ha : SE X W a da) : ST X W (.Compare a [.Is] [.Constant .none j pos'] pos) (tOfB (eCmp1 cmpIsN da)) := by
  refine (pt_cmp (pc_isN ha) rfl).dimp ?_
  rintro s H Q ⟨M, r, S, en, rh, p⟩
  have e : tOfB (eCmp1 cmpIsN da) r S = ((da r S).bind fun x S => Rs.ofO (cmpIsN x) S) := by
    unfold tOfB eCmp1
    cases da r S with
    | ok x S1 => dsimp only [Rs.bind]; cases cmpIsN x <;> rfl
    | exc _ _ _ => rfl
    | bad => rfl
  rw [e] at p
  refine ⟨M, r, S, en, rh, p.bind.imp fun v H1 h => ?_⟩
  obtain ⟨M1, x, S1, e1, rh1, rd1, p1⟩ := h
  have e : cmpIsN x = some (decide (v = .non)) := by
    cases x with
    | non => cases (show _ = _ from rd1); rfl
    | bl _ => cases (show _ = _ from rd1); rfl
    | int _ => cases (show _ = _ from rd1); rfl
    | str _ => cases (show _ = _ from rd1); rfl
    | tup _ => obtain ⟨_, _, rfl, _⟩ := rd1; rfl
    | lst _ => obtain ⟨_, _, rfl, _⟩ := rd1; rfl
    | ref _ => obtain ⟨_, rfl, _⟩ := rd1; rfl
    | cls _ => obtain ⟨_, rfl, _⟩ := rd1; rfl
    | fn _ => obtain ⟨_, rfl, _⟩ := rd1; rfl
  rw [e] at p1
  exact ⟨_, rfl, p1 M1 _ H1 Ext.refl rh1 rfl⟩
theorem st_notN {pos' : Pos} {j} (ha : SE X W a da) : ST X W (.Compare a [.IsNot] [.Constant .none j pos'] pos) (tOfB (eCmp1 (fun x => (cmpIsN x).map (!·)) da)) := by
  refine (pt_cmp (pc_notN ha) rfl).dimp ?_
  rintro s H Q ⟨M, r, S, en, rh, p⟩
  have e : tOfB (eCmp1 (fun x => (cmpIsN x).map (!·)) da) r S = ((da r S).bind fun x S => Rs.ofO ((cmpIsN x).map (!·)) S) := by
    unfold tOfB eCmp1
    cases da r S with
    | ok x S1 => dsimp only [Rs.bind]; cases cmpIsN x <;> rfl
    | exc _ _ _ => rfl
    | bad => rfl
  rw [e] at p
  refine ⟨M, r, S, en, rh, p.bind.imp fun v H1 h => ?_⟩
  obtain ⟨M1, x, S1, e1, rh1, rd1, p1⟩ := h
  have e : (cmpIsN x).map (!·) = some (!decide (v = .non)) := by
    cases x with
    | non => cases (show _ = _ from rd1); rfl
    | bl _ => cases (show _ = _ from rd1); rfl
    | int _ => cases (show _ = _ from rd1); rfl
    | str _ => cases (show _ = _ from rd1); rfl
    | tup _ => obtain ⟨_, _, rfl, _⟩ := rd1; rfl
    | lst _ => obtain ⟨_, _, rfl, _⟩ := rd1; rfl
    | ref _ => obtain ⟨_, rfl, _⟩ := rd1; rfl
    | cls _ => obtain ⟨_, rfl, _⟩ := rd1; rfl
    | fn _ => obtain ⟨_, rfl, _⟩ := rd1; rfl
  rw [e] at p1
  exact ⟨_, rfl, p1 M1 _ H1 Ext.refl rh1 rfl⟩
theorem st_not (ha : ST X W a ta) : ST X W (.UnaryOp .Not a pos) (tNotD ta) := by
  refine (pt_not ha).dimp ?_
  rintro s H Q ⟨M, r, S, en, rh, p⟩
  refine ⟨M, r, S, en, rh, p.bind.imp fun v H1 h => ?_⟩
  obtain ⟨M1, x, S1, e1, rh1, rd1, p1⟩ := h
  cases rd1
  exact p1 M1 _ H1 Ext.refl rh1 rfl
/-- and, or: PW -/
abbrev SW (X : Cx) (W : WX) (e : Expr) (d : DT) : Prop := PW X e (tT (gx X) W d)
theorem L2PW_dimp {t t' : TT} (h : PW X e t) (k : ∀ s H Q, t' s H Q → t s H Q) : PW X e t' := ⟨fun w pins st s H Q I q => h.run w pins st s H Q I (k s H Q q)⟩
theorem sw_and1 (ha : ST X W a ta) : SW X W (.BoolOp .And [a] pos) ta := pw_and1 ha
theorem sw_or1 (ha : ST X W a ta) : SW X W (.BoolOp .Or [a] pos) ta := pw_or1 ha
theorem sw_and {rest : List Expr} (ha : ST X W a ta) (hb : SW X W (.BoolOp .And (b :: rest) pos) tb) : SW X W (.BoolOp .And (a :: b :: rest) pos) (tAndD ta tb) := by
  refine L2PW_dimp (pw_and ha hb) ?_
  rintro s H Q ⟨M, r, S, en, rh, p⟩
  refine ⟨M, r, S, en, rh, p.bind.imp fun v H1 h => ?_⟩
  obtain ⟨M1, x, S1, e1, rh1, rd1, p1⟩ := h
  obtain rfl : x = v := rd1
  cases x with
  | true => exact ⟨M1, r, S1, en.mono e1, rh1, p1⟩
  | false => exact p1 M1 _ H1 Ext.refl rh1 rfl
theorem sw_or {rest : List Expr} (ha : ST X W a ta) (hb : SW X W (.BoolOp .Or (b :: rest) pos) tb) : SW X W (.BoolOp .Or (a :: b :: rest) pos) (tOrD ta tb) := by
  refine L2PW_dimp (pw_or ha hb) ?_
  rintro s H Q ⟨M, r, S, en, rh, p⟩
  refine ⟨M, r, S, en, rh, p.bind.imp fun v H1 h => ?_⟩
  obtain ⟨M1, x, S1, e1, rh1, rd1, p1⟩ := h
  obtain rfl : x = v := rd1
  cases x with
  | true => exact p1 M1 _ H1 Ext.refl rh1 rfl
  | false => exact ⟨M1, r, S1, en.mono e1, rh1, p1⟩
theorem st_w (h : SW X W e ta) : ST X W e ta := h.pt
/-! ### and, or, not as values; a if t else b -/
theorem se_one {op} (h : SE X W a da) : SE X W (.BoolOp op [a] pos) da := pe_one h
theorem se_and {rest : List Expr} (ha : SE X W a da) (hb : SE X W (.BoolOp .And (b :: rest) pos) db) : SE X W (.BoolOp .And (a :: b :: rest) pos) (eAnd da db) := by
  refine (pe_and ha hb).dimp ?_
  rintro s H Q ⟨M, r, S, en, rh, p⟩
  refine ⟨M, r, S, en, rh, p.bind.imp fun v H1 h => ?_⟩
  obtain ⟨M1, x, S1, e1, rh1, rd1, p1⟩ := h
  cases x with
  | bl c =>
    cases (show _ = _ from rd1)
    refine ⟨c, rfl, ?_⟩
    cases c with
    | true => exact ⟨M1, r, S1, en.mono e1, rh1, p1⟩
    | false => exact p1 M1 _ H1 Ext.refl rh1 rfl
  | _ => exact p1.elim
theorem se_or {rest : List Expr} (ha : SE X W a da) (hb : SE X W (.BoolOp .Or (b :: rest) pos) db) : SE X W (.BoolOp .Or (a :: b :: rest) pos) (eOr da db) := by
  refine (pe_or ha hb).dimp ?_
  rintro s H Q ⟨M, r, S, en, rh, p⟩
  refine ⟨M, r, S, en, rh, p.bind.imp fun v H1 h => ?_⟩
  obtain ⟨M1, x, S1, e1, rh1, rd1, p1⟩ := h
  cases x with
  | bl c =>
    cases (show _ = _ from rd1)
    refine ⟨c, rfl, ?_⟩
    cases c with
    | false => exact ⟨M1, r, S1, en.mono e1, rh1, p1⟩
    | true => exact p1 M1 _ H1 Ext.refl rh1 rfl
  | _ => exact p1.elim
theorem se_not (ha : SE X W a da) : SE X W (.UnaryOp .Not a pos) (eNot da) := by
  refine (pe_not ha).dimp ?_
  rintro s H Q ⟨M, r, S, en, rh, p⟩
  refine ⟨M, r, S, en, rh, p.bind.imp fun v H1 h => ?_⟩
  obtain ⟨M1, x, S1, e1, rh1, rd1, p1⟩ := h
  cases x with
  | bl c =>
    cases (show _ = _ from rd1)
    exact ⟨c, rfl, p1 M1 _ H1 Ext.refl rh1 rfl⟩
  | _ => exact p1.elim
theorem se_neg (ha : SE X W a da) : SE X W (.UnaryOp .USub a pos) (eUn opNeg da) := by
  refine (pe_un un_neg ha).dimp ?_
  rintro s H Q ⟨M, r, S, en, rh, p⟩
  refine ⟨M, r, S, en, rh, p.bind.imp fun v H1 h => ?_⟩
  obtain ⟨M1, x, S1, e1, rh1, rd1, p1⟩ := h
  cases x with
  | int c =>
    cases (show _ = _ from rd1)
    exact ⟨c, rfl, p1 M1 _ H1 Ext.refl rh1 rfl⟩
  | _ => exact p1.elim
theorem se_if (hc : ST X W c ta) (ha : SE X W a da) (hb : SE X W b db) : SE X W (.IfExp c a b pos) (eIf ta da db) := by
  refine (pe_ifExp hc ha hb).dimp ?_
  rintro s H Q ⟨M, r, S, en, rh, p⟩
  refine ⟨M, r, S, en, rh, p.bind.imp fun v H1 h => ?_⟩
  obtain ⟨M1, x, S1, e1, rh1, rd1, p1⟩ := h
  obtain rfl : x = v := rd1
  cases x with
  | true => exact ⟨M1, r, S1, en.mono e1, rh1, p1⟩
  | false => exact ⟨M1, r, S1, en.mono e1, rh1, p1⟩
/-! ### arguments, displays -/
variable {ds : DA}
theorem sa_nil : SA X W [] aNil := by
  refine pa_nil.dimp ?_
  rintro s H Q ⟨M, r, S, en, rh, p⟩
  exact p M [] H Ext.refl rh rfl
theorem sa_cons (ha : SE X W e da) (hb : SA X W es ds) (hs : starEach (e :: es) X.env = (false, eval e X.env) :: starEach es X.env := by rfl) : SA X W (e :: es) (aCons da ds) := by
  refine (pa_cons ha hb hs).dimp ?_
  rintro s H Q ⟨M, r, S, en, rh, p⟩
  refine ⟨M, r, S, en, rh, p.bind.imp fun v H1 h => ?_⟩
  obtain ⟨M1, x, S1, e1, rh1, rd1, p1⟩ := h
  refine ⟨M1, r, S1, en.mono e1, rh1, (Post.bind (R := RA (gx X)) p1).imp fun vs H2 h => ?_⟩
  obtain ⟨M2, xs, S2, e2, rh2, rd2, p2⟩ := h
  exact p2 M2 _ H2 Ext.refl rh2 (RelDs.cons (rd1.mono e2) rd2)
theorem se_tup {k} (h : SA X W es ds) : SE X W (.Tuple es k pos) (eTup ds) := by
  refine (pe_tup h).dimp ?_
  rintro s H Q ⟨M, r, S, en, rh, p⟩
  refine ⟨M, r, S, en, rh, p.bind.imp fun vs H1 h => ?_⟩
  obtain ⟨M1, xs, S1, e1, rh1, rd1, p1⟩ := h
  split at p1
  · rename_i hl
    refine ⟨by rw [← rd1.len]; exact hl, fun q hq => ?_⟩
    obtain ⟨M', x1, x2, x3⟩ := Ext.tupNew rh1 hq rd1
    exact p1 M' _ _ x1 x2 x3
  · exact p1.elim
theorem se_lst (h : SA X W es ds) : SE X W (.List es pos) (eLst ds) := by
  refine (pe_lst h).dimp ?_
  rintro s H Q ⟨M, r, S, en, rh, p⟩
  refine ⟨M, r, S, en, rh, p.bind.imp fun vs H1 h => ?_⟩
  obtain ⟨M1, xs, S1, e1, rh1, rd1, p1⟩ := h
  split at p1
  · rename_i hl
    refine ⟨by rw [← rd1.len]; exact hl, fun q hq => ?_⟩
    obtain ⟨M', x1, x2, x3⟩ := Ext.lstNew rh1 hq rd1
    exact p1 M' _ _ x1 x2 x3
  · exact p1.elim
end
end Dn

set_option Elab.async false
set_option linter.all false
set_option maxRecDepth 100000
set_option maxHeartbeats 4000000
/-! The rules: lists and tuples as they stand; built-ins. -/
namespace Dn
open PySem PySem.Spec PyProof.Rows L2
/-- what stands at p -/
def SqR (G : Gx) (t : Bool) (H : Hp) (p : Addr) (vs : List V) : Prop := if t then SqT G.K H p vs else SqL G.K H p vs
theorem src_ok {G : Gx} {M : Mp} {S : Store} {H : Hp} {r : Rho} {s : L2.St} {c : Src} {v : V} {xs : List D} (rh : RelH G M S H) (en : EnvR G M H r s) (h : RSrc G s M H c v) (g : c.get r S = some xs) :
    ∃ p vs, v = .ref p ∧ SqR G c.isT H p vs ∧ RelDs G M xs vs := by
  cases c with
  | cst t ys =>
    have e : ys = xs := Option.some.inj g
    subst e
    cases t with
    | true =>
      obtain ⟨p, vs, rfl, h1, h2⟩ := tup_ok rh h
      exact ⟨p, vs, rfl, h1, h2⟩
    | false =>
      obtain ⟨p, vs, rfl, h1, h2⟩ := h
      exact ⟨p, vs, rfl, rh.sq h1, h2⟩
  | own i =>
    obtain ⟨a, rfl, h1⟩ := h
    dsimp only [Src.get] at g
    cases q : r[i]? with
    | none => rw [q] at g; cases g
    | some z =>
      rw [q] at g
      cases z with
      | own ys =>
        have e : ys = xs := Option.some.inj g
        subst e
        obtain ⟨v, e1, e2⟩ := en.sl i _ q
        rw [h1] at e1
        cases e1
        obtain ⟨b, vs, e3, e4, e5, _, _⟩ := e2
        cases e3
        exact ⟨a, vs, rfl, .inl (.inl e4), e5⟩
      | un => cases g
      | val _ => cases g
      | ownd _ => cases g
  | loc l =>
    obtain ⟨a, rfl, h1⟩ := h
    dsimp only [Src.get] at g
    cases q : S[l]? with
    | none => rw [q] at g; cases g
    | some z =>
      rw [q] at g
      cases z with
      | lst ys =>
        have e : ys = xs := Option.some.inj g
        subst e
        obtain ⟨b, e1, vs, e2, e3⟩ := rh.obj l _ q
        rw [h1] at e1; cases e1
        exact ⟨a, vs, rfl, .inl (.inl e2), e3⟩
      | ins _ _ => cases g
      | dct _ => cases g
theorem RSrc.mono {G : Gx} {M M' : Mp} {H H' : Hp} {s : L2.St} (e : Ext M H M' H') {c : Src} {v : V} (h : RSrc G s M H c v) : RSrc G s M' H' c v := by
  cases c with
  | cst t ys => cases t <;> exact RelD.mono e h
  | own i => exact h
  | loc l => exact RelD.mono (G := G) (d := .ref l) e h
section
variable {X : Cx} {W : WX} {a b c e : Expr} {da db dc : DE} {dl : DL} {pos : Pos}
theorem sl_e (h : SE X W a da) : SL X W a (lE da) := by
  refine h.dimp ?_
  rintro s H Q ⟨M, r, S, en, rh, p⟩
  refine ⟨M, r, S, en, rh, p.bind.imp fun v H1 h => ?_⟩
  obtain ⟨M1, x, S1, e1, rh1, rd1, p1⟩ := h
  cases q : srcOf S1 x with
  | none => rw [q] at p1; exact p1.elim
  | some c =>
    rw [q] at p1
    refine p1 M1 v H1 Ext.refl rh1 ?_
    cases x with
    | tup xs => cases q; exact rd1
    | lst xs => cases q; exact rd1
    | ref l =>
      dsimp only [srcOf] at q
      split at q
      · cases q; exact rd1
      · cases q
    | _ => cases q
theorem sl_own {i : Nat} {x : Str} (hN : X.N[i]? = some x) (hv : Vis X.env.scope x) (hd : (x == ("__debug__" : Str)) = false := by decide) (hcd : (x == ("__classdict__" : Str)) = false := by decide) : SL X W (.Name x pos) (lOwn i) := by
  refine (pe_var (i := i) hN hv hd hcd).dimp ?_
  rintro s H Q ⟨M, r, S, en, rh, p⟩
  unfold lOwn at p
  cases q : r[i]? with
  | none => rw [q] at p; exact p.elim
  | some z =>
    rw [q] at p
    obtain ⟨v, h1, h2⟩ := en.sl i z q
    cases z with
    | own d =>
      obtain ⟨a, vs, rfl, h3⟩ := h2
      exact ⟨.ref a, h1, p M _ H Ext.refl rh ⟨a, rfl, h1⟩⟩
    | un => exact p.elim
    | val _ => exact p.elim
    | ownd _ => exact p.elim
/-- a built-in of one list or tuple -/
def L1 (G : Gx) (r : List V → Hp → VK → Prop) (f : Bool → List D → Option D) : Prop := ∀ (M : Mp) (S : Store) (H : Hp) (t : Bool) (xs : List D) (p : Addr) (vs : List V) (z : D) (Q : VK), RelH G M S H → SqR G t H p vs → RelDs G M xs vs → f t xs = some z →
  (∀ M' w H', Ext M H M' H' → RelH G M' S H' → RelD G M' z w → Q w H') → r [.ref p] H Q
theorem se_l1 {r : List V → Hp → VK → Prop} {f : Bool → List D → Option D} (hf : L1 (gx X) r f) (hc : PE X e (tCB r (tCons (tL (gx X) W dl) tNil))) : SE X W e (eL1 f dl) := by
  refine hc.dimp ?_
  rintro s H Q ⟨M, r, S, en, rh, p⟩
  refine ⟨M, r, S, en, rh, (Post.bind (R := RSrc (gx X) s) p).imp fun v H1 h => ?_⟩
  obtain ⟨M1, c, S1, e1, rh1, rd1, p1⟩ := h
  cases q : c.get r S1 with
  | none => rw [q] at p1; exact p1.elim
  | some xs =>
    rw [q] at p1
    obtain ⟨p, vs, rfl, h1, h2⟩ := src_ok rh1 (en.mono e1) rd1 q
    cases q2 : f c.isT xs with
    | none =>
      have p1 : Post (gx X) (RD (gx X)) W M1 H1 s (Rs.ofO (f c.isT xs) S1) Q := p1
      rw [q2] at p1; exact p1.elim
    | some z =>
      have p1 : Post (gx X) (RD (gx X)) W M1 H1 s (Rs.ofO (f c.isT xs) S1) Q := p1
      rw [q2] at p1
      exact hf M1 S1 H1 c.isT xs p vs z Q rh1 h1 h2 q2 p1
theorem sq_or {G : Gx} {t : Bool} {H : Hp} {p : Addr} {vs : List V} (h : SqR G t H p vs) : SqL G.K H p vs ∨ SqT G.K H p vs := by
  cases t with
  | true => exact .inr h
  | false => exact .inl h
theorem l1_len {G : Gx} : L1 G (fun xs H Q => ∃ p ys, xs = [.ref p] ∧ (SqL G.K H p ys ∨ SqT G.K H p ys) ∧ Q (.int ys.length) H) (fun _ xs => some (.int xs.length)) := by
  intro M S H t xs p vs z Q rh h1 h2 hz k
  cases hz
  refine ⟨p, vs, rfl, sq_or h1, k M _ H Ext.refl rh ?_⟩
  rw [h2.len]
  rfl
/-- tuple(xs): of a tuple it is the tuple itself -/
theorem se_tupOf (hc : PE X e (tCB (fun xs H Q => ∃ p ys, xs = [.ref p] ∧ ((SqL X.K H p ys ∧ ∀ l, H l = none → Q (.ref l) (upd H l (.tup ys))) ∨ (SqT X.K H p ys ∧ Q (.ref p) H))) (tCons (tL (gx X) W dl) tNil))) : SE X W e (eTupOf dl) := by
  refine hc.dimp ?_
  rintro s H Q ⟨M, r, S, en, rh, p⟩
  refine ⟨M, r, S, en, rh, (Post.bind (R := RSrc (gx X) s) p).imp fun v H1 h => ?_⟩
  obtain ⟨M1, c, S1, e1, rh1, rd1, p1⟩ := h
  cases q : c.get r S1 with
  | none => rw [q] at p1; exact p1.elim
  | some xs =>
    rw [q] at p1
    have p1 : Post (gx X) (RD (gx X)) W M1 H1 s (.ok (.tup xs) S1) Q := p1
    obtain ⟨p, vs, rfl, h1, h2⟩ := src_ok rh1 (en.mono e1) rd1 q
    refine ⟨p, vs, rfl, ?_⟩
    have new : SqL X.K H1 p vs → (SqL X.K H1 p vs ∧ ∀ l, H1 l = none → Q (.ref l) (upd H1 l (.tup vs))) := fun h => ⟨h, fun l hl => by
      obtain ⟨M', x1, x2, x3⟩ := Ext.tupNew rh1 hl h2
      exact p1 M' _ _ x1 x2 x3⟩
    cases c with
    | cst t ys =>
      cases t with
      | true =>
        have e : ys = xs := Option.some.inj q
        subst e
        exact .inr ⟨h1, p1 M1 _ H1 Ext.refl rh1 rd1⟩
      | false => exact .inl (new h1)
    | own i => exact .inl (new h1)
    | loc l => exact .inl (new h1)
theorem l1_lst {G : Gx} : L1 G (fun xs H Q => ∃ p ys, xs = [.ref p] ∧ (SqL G.K H p ys ∨ SqT G.K H p ys) ∧ ∀ l, H l = none → Q (.ref l) (upd H l (.lst ys))) (fun _ xs => some (.lst xs)) := by
  intro M S H t xs p vs z Q rh h1 h2 hz k
  cases hz
  refine ⟨p, vs, rfl, sq_or h1, fun l hl => ?_⟩
  obtain ⟨M', e1, e2, e3⟩ := Ext.lstNew rh hl h2
  exact k M' _ _ e1 e2 e3
theorem bools_ok {G : Gx} {M : Mp} : ∀ {xs : List D} {vs : List V} {bs : List Bool}, RelDs G M xs vs → boolsOf xs = some bs → vs = bs.map V.bl
  | [], _, _, h, e => by cases e; exact h
  | .bl b :: xs, _, bs, h, e => by
    obtain ⟨v, r, rfl, h1, h2⟩ := h
    dsimp only [boolsOf] at e
    cases q : boolsOf xs with
    | none => rw [q] at e; cases e
    | some cs =>
      rw [q] at e
      cases e
      cases (show _ = _ from h1)
      rw [bools_ok h2 q]
      rfl
  | .non :: _, _, _, _, e => by cases e
  | .int _ :: _, _, _, _, e => by cases e
  | .str _ :: _, _, _, _, e => by cases e
  | .tup _ :: _, _, _, _, e => by cases e
  | .lst _ :: _, _, _, _, e => by cases e
  | .ref _ :: _, _, _, _, e => by cases e
  | .cls _ :: _, _, _, _, e => by cases e
  | .fn _ :: _, _, _, _, e => by cases e
theorem ints_ok {G : Gx} {M : Mp} : ∀ {xs : List D} {vs : List V} {ns : List Int}, RelDs G M xs vs → intsOf xs = some ns → vs = ns.map V.int
  | [], _, _, h, e => by cases e; exact h
  | .int b :: xs, _, bs, h, e => by
    obtain ⟨v, r, rfl, h1, h2⟩ := h
    dsimp only [intsOf] at e
    cases q : intsOf xs with
    | none => rw [q] at e; cases e
    | some cs =>
      rw [q] at e
      cases e
      cases (show _ = _ from h1)
      rw [ints_ok h2 q]
      rfl
  | .non :: _, _, _, _, e => by cases e
  | .bl _ :: _, _, _, _, e => by cases e
  | .str _ :: _, _, _, _, e => by cases e
  | .tup _ :: _, _, _, _, e => by cases e
  | .lst _ :: _, _, _, _, e => by cases e
  | .ref _ :: _, _, _, _, e => by cases e
  | .cls _ :: _, _, _, _, e => by cases e
  | .fn _ :: _, _, _, _, e => by cases e
theorem l1_all {G : Gx} : L1 G (rAll G.K) (fun t xs => if t then none else (boolsOf xs).map fun bs => .bl (bs.all id)) := by
  intro M S H t xs p vs z Q rh h1 h2 hz k
  cases t with
  | true => cases hz
  | false =>
    dsimp only at hz
    cases q : boolsOf xs with
    | none => rw [q] at hz; cases hz
    | some bs =>
      rw [q] at hz
      cases hz
      exact ⟨p, bs, rfl, by rw [← bools_ok h2 q]; exact h1, k M _ H Ext.refl rh rfl⟩
theorem l1_any {G : Gx} : L1 G (rAny G.K) (fun t xs => if t then none else (boolsOf xs).map fun bs => .bl (bs.any id)) := by
  intro M S H t xs p vs z Q rh h1 h2 hz k
  cases t with
  | true => cases hz
  | false =>
    dsimp only at hz
    cases q : boolsOf xs with
    | none => rw [q] at hz; cases hz
    | some bs =>
      rw [q] at hz
      cases hz
      exact ⟨p, bs, rfl, by rw [← bools_ok h2 q]; exact h1, k M _ H Ext.refl rh rfl⟩
theorem l1_sum {G : Gx} : L1 G (rSum G.K) (fun t xs => if t then none else (intsOf xs).map fun ns => .int ns.sum) := by
  intro M S H t xs p vs z Q rh h1 h2 hz k
  cases t with
  | true => cases hz
  | false =>
    dsimp only at hz
    cases q : intsOf xs with
    | none => rw [q] at hz; cases hz
    | some bs =>
      rw [q] at hz
      cases hz
      exact ⟨p, bs, rfl, by rw [← ints_ok h2 q]; exact h1, k M _ H Ext.refl rh rfl⟩
/-! ### sorted -/
/-- a machine's value is this one -/
def VD (G : Gx) (M : Mp) (u : Value) (d : D) : Prop := ∃ v, RelV v u ∧ RelD G M d v
theorem each_of {G : Gx} {M : Mp} : ∀ {ds : List D} {vs : List V} {us : List Value}, RelDs G M ds vs → Vals vs us → PySem.W.EachIs (VD G M) us ds
  | [], _, _, h, r => by
    cases (show _ = _ from h)
    cases r
    exact .nil
  | d :: ds, _, _, h, r => by
    obtain ⟨v, vs, rfl, h1, h2⟩ := h
    cases r with
    | cons r1 r2 => exact .cons ⟨v, r1, h1⟩ (each_of h2 r2)
theorem of_each {G : Gx} {M : Mp} : ∀ {ds : List D} {us : List Value}, PySem.W.EachIs (VD G M) us ds → ∃ vs, RelDs G M ds vs ∧ Vals vs us
  | _, _, .nil => ⟨[], rfl, .nil⟩
  | _, _, .cons ⟨v, r, h⟩ t => by
    obtain ⟨vs, h1, h2⟩ := of_each t
    exact ⟨v :: vs, RelDs.cons h h1, .cons r h2⟩
theorem each_imp {a b : Type} {R R' : a → b → Prop} : ∀ {us : List a} {ds : List b}, PySem.W.EachIs R us ds → (∀ u d, d ∈ ds → R u d → R' u d) → PySem.W.EachIs R' us ds
  | _, _, .nil, _ => .nil
  | _, _, .cons r t, k => .cons (k _ _ (List.mem_cons_self ..) r) (each_imp t fun u d hd => k u d (List.mem_cons_of_mem _ hd))
def rSortD (G : Gx) : List V → Hp → VK → Prop := fun xs H Q => ∃ (M : Mp) (S : Store) (p : Addr) (vs : List V) (ds : List D), xs = [.ref p] ∧ RelH G M S H ∧ SqL G.K H p vs ∧ RelDs G M ds vs ∧ sortOk ds = true ∧
  ∀ l ws, H l = none → RelDs G M (sortD ds) ws → Q (.ref l) (upd H l (.lst ws))
theorem sort_facts {ds : List D} (h : sortOk ds = true) : (∀ d ∈ ds, D.pl 64 d = true) ∧ PySem.W.AllAlike (ds.map D.P) ∧ PySem.W.Sortable (ds.map D.P) := by
  unfold sortOk at h
  simp only [Bool.and_eq_true, Bool.or_eq_true, List.all_eq_true] at h
  obtain ⟨⟨⟨h1, h2⟩, h3⟩, h4⟩ := h
  refine ⟨h1, ?_, ?_⟩
  · intro a ha b hb
    obtain ⟨x, hx, rfl⟩ := List.mem_map.mp ha
    obtain ⟨y, hy, rfl⟩ := List.mem_map.mp hb
    unfold aliker at h2
    simp only [List.all_eq_true] at h2
    exact h2 x hx y hy
  · rcases h4 with h4 | h4
    · refine .inl fun d hd => ?_
      obtain ⟨x, hx, rfl⟩ := List.mem_map.mp hd
      have q3 := h3 x hx
      have q4 := h4 x hx
      cases x with
      | tup ys =>
        cases ys with
        | nil => simp at q3
        | cons y ys => exact ⟨y.P, D.Ps ys, by simp [D.P, D.Ps]⟩
      | _ => simp at q4
    · refine .inr fun d hd => ?_
      obtain ⟨x, hx, rfl⟩ := List.mem_map.mp hd
      have q3 := h3 x hx
      have q4 := h4 x hx
      cases x <;> simp_all [D.P]
theorem cr_sortD (hu : X.A.units + 70 < cLine) : CallR X (.builtin "sorted") (rSortD (gx X)) := by
  intro pins s z H xs us Q I r h
  obtain ⟨M, S, p, vs, ds, rfl, rh, hp, rd, ok, k⟩ := h
  obtain ⟨u, rfl, ru⟩ := vals1 r
  cases ru
  obtain ⟨its, rv, pl, hz⟩ := I.list hp
  obtain ⟨f1, f2, f3⟩ := sort_facts ok
  have e := each_of rd rv
  have er : PySem.W.EachIs (fun v b => ∃ as, Reads s.heap v (D.P b) as) its ds := each_imp e fun u d hd ⟨v, r1, r2⟩ => Dp.reads I _ v u (RelD.dp rh (f1 d hd) r2) r1
  refine PySem.W.sorted_data (enc := D.P) (R := VD (gx X) M) pl.isList e er f2 f3 (by rw [rd.len]; exact hz) (fun b hb => ?_) fun out ho he => ?_
  · have := (P_lay (f1 b hb)).2
    omega
  · have he : PySem.W.EachIs (VD (gx X) M) out (sortD ds) := he
    obtain ⟨ws, h1, h2⟩ := of_each he
    obtain ⟨ep, he'⟩ := PyProof.Rows.sortedAll_at s.heap its out.toArray
    have hlen : ws.length ≤ sizeLine := by
      rw [h2.length, ho, rd.len]; exact hz
    exact ⟨.ref _, upd H (s.heap.objs.size + 1) (.lst ws), I.laid (t' := s.toks) (fun _ _ => PyProof.Rows.sortedAll_old) (Nat.le_succ _) ⟨hlen, out, ep, h2, he'⟩, rfl, k _ _ (I.hok.fresh (Nat.le_succ _)) h1⟩
theorem l1_sorted {G : Gx} : L1 G (rSortD G) (fun t xs => if !t && sortOk xs then some (.lst (sortD xs)) else none) := by
  intro M S H t xs p vs z Q rh h1 h2 hz k
  cases t with
  | true => cases hz
  | false =>
    dsimp only at hz
    split at hz
    · rename_i ok
      cases hz
      refine ⟨M, S, p, vs, xs, rfl, rh, h1, h2, by simpa using ok, fun l ws hl hw => ?_⟩
      obtain ⟨M', e1, e2, e3⟩ := Ext.lstNew rh hl hw
      exact k M' _ _ e1 e2 e3
    · cases hz
/-! ### subscripts -/
theorem place_eq (n : Nat) (i : Int) : place n i = ixN n i := rfl
theorem at_ok {G : Gx} {M : Mp} {xs : List D} {vs : List V} {i : Int} {d : D} (h : RelDs G M xs vs) (e : atD xs i = some d) : ∃ v, atI vs i = some v ∧ RelD G M d v := by
  unfold atD at e
  unfold atI
  rw [← h.len, ← place_eq]
  cases q : place xs.length i with
  | none => rw [q] at e; cases e
  | some j =>
    rw [q] at e
    exact h.get e
def rIxA (K : PySem.W.Frag) : R2 := fun x y H Q => rIxL K x y H Q ∨ rIxT K x y H Q
theorem ix_any : IxR X (rIxA X.K) := ix_list.or ix_tup
theorem se_ix (ha : SL X W a dl) (hb : SE X W b db) (hs : PlainIx b) : SE X W (.Subscript a b pos) (eIx dl db) := by
  refine (pe_ix ix_any ha hb hs).dimp ?_
  rintro s H Q ⟨M, r, S, en, rh, p⟩
  refine ⟨M, r, S, en, rh, (Post.bind (R := RSrc (gx X) s) p).imp fun v H1 h => ?_⟩
  obtain ⟨M1, c, S1, e1, rh1, rd1, p1⟩ := h
  refine ⟨M1, r, S1, en.mono e1, rh1, (Post.bind (R := RD (gx X)) p1).imp fun w H2 h => ?_⟩
  obtain ⟨M2, y, S2, e2, rh2, rd2, p2⟩ := h
  cases y with
  | int i =>
    cases (show _ = _ from rd2)
    dsimp only at p2
    cases q : c.get r S2 with
    | none => rw [q] at p2; exact p2.elim
    | some xs =>
      rw [q] at p2
      obtain ⟨p, vs, rfl, h1, h2⟩ := src_ok rh2 ((en.mono e1).mono e2) (rd1.mono e2) q
      cases q2 : atD xs i with
      | none =>
        have p2 : Post (gx X) (RD (gx X)) W M2 H2 s (Rs.ofO (atD xs i) S2) Q := p2
        rw [q2] at p2; exact p2.elim
      | some d =>
        have p2 : Post (gx X) (RD (gx X)) W M2 H2 s (Rs.ofO (atD xs i) S2) Q := p2
        rw [q2] at p2
        obtain ⟨v, h3, h4⟩ := at_ok h2 q2
        have fin := p2 M2 v H2 Ext.refl rh2 h4
        rcases sq_or h1 with h1 | h1
        · exact .inl ⟨p, vs, i, v, rfl, rfl, h1, h3, fin⟩
        · exact .inr ⟨p, vs, i, v, rfl, rfl, h1, h3, fin⟩
  | _ => exact p2.elim
/-- bounds of slices -/
theorem cutAt_eq (n d : Nat) (o : Option Int) : cutAt n d o = HT.sIx n d o := by
  cases o with
  | none => rfl
  | some i =>
    first
      | rfl
      | (unfold cutAt HT.sIx; dsimp only; split <;> omega)
theorem cutD_ok {G : Gx} {M : Mp} {xs : List D} {vs : List V} (h : RelDs G M xs vs) (lo hi : Option Int) : RelDs G M (cutD xs lo hi) (cutV vs lo hi) := by
  unfold cutD cutV
  rw [← h.len, cutAt_eq, cutAt_eq]
  exact (h.drop _).take _
end
end Dn

set_option Elab.async false
set_option linter.all false
set_option maxRecDepth 100000
set_option maxHeartbeats 4000000
/-! The rules: slices, in, built-ins of values, objects, calls, comprehensions. -/
namespace Dn
open PySem PySem.Spec PyProof.Rows L2
section
variable {X : Cx} {W : WX} {a b c e : Expr} {es : List Expr} {da db dc : DE} {ds : DA} {dl : DL} {pos : Pos}
/-! ### slices -/
def RO : Mp → Hp → Option Int → Option Int → Prop := fun _ _ b c => b = c
def tO (G : Gx) (W : WX) (d : DO) : TO := fun s H Q => ∃ M r S, EnvR G M H r s ∧ RelH G M S H ∧ Post G RO W M H s (d r S) Q
abbrev SO2 (X : Cx) (W : WX) (e : Option Expr) (d : DO) : Prop := PO X e (tO (gx X) W d)
theorem po_dimp {e : Option Expr} {t t' : TO} (h : PO X e t) (k : ∀ s H Q, t' s H Q → t s H Q) : PO X e t' := ⟨fun pins st s H Q I q => h.run pins st s H Q I (k s H Q q)⟩
theorem so_none : SO2 X W none oNone := by
  refine po_dimp po_none ?_
  rintro s H Q ⟨M, r, S, en, rh, p⟩
  exact p M _ H Ext.refl rh rfl
theorem so_some (h : SE X W a da) : SO2 X W (some a) (oSome da) := by
  refine po_dimp (po_some h) ?_
  rintro s H Q ⟨M, r, S, en, rh, p⟩
  refine ⟨M, r, S, en, rh, p.bind.imp fun v H1 h => ?_⟩
  obtain ⟨M1, x, S1, e1, rh1, rd1, p1⟩ := h
  cases x with
  | int i =>
    cases (show _ = _ from rd1)
    exact ⟨i, rfl, p1 M1 _ H1 Ext.refl rh1 rfl⟩
  | _ => exact p1.elim
def rSlQ (K : PySem.W.Frag) : V → Option Int → Option Int → Hp → VK → Prop := fun x lo hi H Q => rSlL K x lo hi H Q ∨ rSlA K x lo hi H Q
theorem sl_any : SlR X (rSlQ X.K) := sl_list.or sl_tupA
theorem se_slice {lo hi : Option Expr} {dlo dhi : DO} {p2 : Pos} (ha : SL X W a dl) (hl : SO2 X W lo dlo) (hh : SO2 X W hi dhi) : SE X W (.Subscript a (.Slice lo hi none p2) pos) (eSlice dl dlo dhi) := by
  refine (pe_slice sl_any ha hl hh).dimp ?_
  rintro s H Q ⟨M, r, S, en, rh, p⟩
  refine ⟨M, r, S, en, rh, (Post.bind (R := RSrc (gx X) s) p).imp fun v H1 h => ?_⟩
  obtain ⟨M1, c, S1, e1, rh1, rd1, p1⟩ := h
  refine ⟨M1, r, S1, en.mono e1, rh1, (Post.bind (R := RO) p1).imp fun l H2 h => ?_⟩
  obtain ⟨M2, l', S2, e2, rh2, rd2, p2⟩ := h
  obtain rfl : l' = l := rd2
  refine ⟨M2, r, S2, (en.mono e1).mono e2, rh2, (Post.bind (R := RO) p2).imp fun u H3 h => ?_⟩
  obtain ⟨M3, u', S3, e3, rh3, rd3, p3⟩ := h
  obtain rfl : u' = u := rd3
  have rd := (rd1.mono e2).mono e3
  have en3 := ((en.mono e1).mono e2).mono e3
  cases q : c.get r S3 with
  | none => rw [q] at p3; exact p3.elim
  | some xs =>
    rw [q] at p3
    obtain ⟨p, vs, rfl, h1, h2⟩ := src_ok rh3 en3 rd q
    cases ht : c.isT with
    | false =>
      rw [ht] at p3 h1
      have p3 : Post (gx X) (RD (gx X)) W M3 H3 s (.ok (.lst (cutD xs l' u')) S3) Q := p3
      refine .inl ⟨p, vs, rfl, h1, fun q hq => ?_⟩
      obtain ⟨M', x1, x2, x3⟩ := Ext.lstNew rh3 hq (cutD_ok h2 l' u')
      exact p3 M' _ _ x1 x2 x3
    | true =>
      rw [ht] at p3 h1
      have p3 : Post (gx X) (RD (gx X)) W M3 H3 s (.ok (.tup (cutD xs l' u')) S3) Q := p3
      refine .inr ⟨p, vs, rfl, h1, fun hw => ?_, fun _ q hq => ?_⟩
      · cases c with
        | cst t ys =>
          have e : ys = xs := Option.some.inj q
          subst e
          cases t with
          | true =>
            refine p3 M3 _ H3 Ext.refl rh3 ?_
            have ec : cutD ys l' u' = ys := by
              unfold cutD
              rw [cutAt_eq, cutAt_eq, h2.len, hw.1, hw.2]
              simp [← h2.len]
            rw [ec]
            exact rd
          | false => cases ht
        | own i => cases ht
        | loc l => cases ht
      · obtain ⟨M', x1, x2, x3⟩ := Ext.tupNew rh3 hq (cutD_ok h2 l' u')
        exact p3 M' _ _ x1 x2 x3
/-! ### in -/
def rInA (K : PySem.W.Frag) (neg : Bool) : R2 := fun x y H Q => ∃ d ds, Dp K H x d ∧ (Dp K H y (.list ds) ∨ Dp K H y (.tuple ds)) ∧ SeqAt.shaped d = true ∧ SeqAt.shaped (.list ds) = true ∧ Q (.bl (if neg then !ds.any (fun z => PyData.eqv z d) else ds.any fun z => PyData.eqv z d)) H
theorem shaped_lt {ds : List PyData} (h : SeqAt.shaped (.list ds) = true) : SeqAt.shaped (.tuple ds) = true := by
  unfold SeqAt.shaped at h ⊢
  simpa [PyData.canLay0, PyData.depth] using h
theorem op_inA (hu : X.A.units + 65 < cLine) : OpR X (compareOp .In) (rInA X.K false) := by
  intro pins s z H x y v u Q I rx ry h
  obtain ⟨d, ds, hd, he, sd, se, q⟩ := h
  obtain ⟨as, r1⟩ := Dp.reads I d x v hd rx
  rcases he with he | he
  · obtain ⟨bs, r2⟩ := Dp.reads I (.list ds) y u he ry
    exact SeqAt.in_list_reads r2 r1 (SeqAt.canLay_of_shaped se) (SeqAt.canLay_of_shaped sd) (room_in_shaped sd hu) ⟨.bl _, H, I, rfl, q⟩
  · obtain ⟨bs, r2⟩ := Dp.reads I (.tuple ds) y u he ry
    exact SeqAt.in_tuple_reads r2 r1 (SeqAt.canLay_of_shaped (shaped_lt se)) (SeqAt.canLay_of_shaped sd) (room_in_shaped sd hu) ⟨.bl _, H, I, rfl, q⟩
theorem op_notInA (hu : X.A.units + 65 < cLine) : OpR X (compareOp .NotIn) (rInA X.K true) := by
  intro pins s z H x y v u Q I rx ry h
  obtain ⟨d, ds, hd, he, sd, se, q⟩ := h
  obtain ⟨as, r1⟩ := Dp.reads I d x v hd rx
  rcases he with he | he
  · obtain ⟨bs, r2⟩ := Dp.reads I (.list ds) y u he ry
    exact SeqAt.notIn_list_reads r2 r1 (SeqAt.canLay_of_shaped se) (SeqAt.canLay_of_shaped sd) (room_in_shaped sd hu) ⟨.bl _, H, I, rfl, q⟩
  · obtain ⟨bs, r2⟩ := Dp.reads I (.tuple ds) y u he ry
    exact SeqAt.notIn_tuple_reads r2 r1 (SeqAt.canLay_of_shaped (shaped_lt se)) (SeqAt.canLay_of_shaped sd) (room_in_shaped sd hu) ⟨.bl _, H, I, rfl, q⟩
theorem any_eqv {k m : Nat} {x : D} (hx : D.pl k x = true) : ∀ {xs : List D}, D.pls m xs = true → ((D.Ps xs).any fun z => PyData.eqv z x.P) = xs.any fun z => eqD z x
  | [], _ => rfl
  | y :: xs, h => by
    have h' : D.pl m y = true ∧ D.pls m xs = true := by simpa [D.pls] using h
    simp only [D.Ps, List.any_cons]
    rw [eqv_of y x h'.1 hx, any_eqv hx h'.2]
theorem in_t {G : Gx} {neg : Bool} {W : WX} {da : DE} {dl : DL} {s : L2.St} {H : Hp} {Q : VK} (h : tE G W (eIn neg da dl) s H Q) : tOp (rInA G.K neg) (tE G W da) (tL G W dl) s H Q := by
  obtain ⟨M, r, S, en, rh, p⟩ := h
  refine ⟨M, r, S, en, rh, (Post.bind (R := RD G) p).imp fun v H1 h => ?_⟩
  obtain ⟨M1, x, S1, e1, rh1, rd1, p1⟩ := h
  refine ⟨M1, r, S1, en.mono e1, rh1, (Post.bind (R := RSrc G s) p1).imp fun w H2 h => ?_⟩
  obtain ⟨M2, c, S2, e2, rh2, rd2, p2⟩ := h
  cases q : c.get r S2 with
  | none => rw [q] at p2; exact p2.elim
  | some xs =>
    rw [q] at p2
    obtain ⟨p, vs, rfl, h1, h2⟩ := src_ok rh2 ((en.mono e1).mono e2) rd2 q
    have p2 : Post G (RD G) W M2 H2 s (if D.pl 63 x && D.pls 63 xs then .ok (.bl (if neg then !xs.any (fun z => eqD z x) else xs.any (fun z => eqD z x))) S2 else .bad) Q := p2
    split at p2
    · rename_i hc
      simp only [Bool.and_eq_true] at hc
      have dpx := RelD.dp rh2 hc.1 (rd1.mono e2)
      have dps := RelDs.dps rh2 hc.2 h2
      have sx := P_lay hc.1
      have sxs := Ps_lay hc.2
      refine ⟨x.P, D.Ps xs, dpx, ?_, ?_, ?_, ?_⟩
      · cases ht : c.isT with
        | true => rw [ht] at h1; exact .inr (.tup h1 dps)
        | false => rw [ht] at h1; exact .inl (.lst h1 dps)
      · unfold SeqAt.shaped
        simp only [sx.1, Bool.true_and, decide_eq_true_eq]
        omega
      · unfold SeqAt.shaped
        have q1 : (PyData.list (D.Ps xs)).canLay0 = true := by simp only [PyData.canLay0]; exact sxs.1
        have q2 : (PyData.list (D.Ps xs)).depth ≤ 64 := by simp only [PyData.depth]; omega
        rw [q1, decide_eq_true q2]
        rfl
      · rw [any_eqv hc.1 hc.2]
        exact p2 M2 _ H2 Ext.refl rh2 rfl
    · exact p2.elim
theorem se_in {op : CmpOp} {neg : Bool} (ho : OpR X (compareOp op) (rInA X.K neg)) (ha : SE X W a da) (hb : SL X W b dl) (hm : behindInMarks op b = false) : SE X W (.Compare a [op] [b] pos) (eIn neg da dl) := (pe_cmpR ho ha hb hm).dimp fun _ _ _ => in_t
/-! ### built-ins of values -/
theorem se_len_str (hc : PE X e (tCB (fun xs H Q => ∃ z, xs = [.str z] ∧ z.length ≤ sizeLine ∧ Q (.int z.length) H) (tCons (tE (gx X) W da) tNil))) : SE X W e (eLenS da) := by
  refine hc.dimp ?_
  rintro s H Q ⟨M, r, S, en, rh, p⟩
  refine ⟨M, r, S, en, rh, p.bind.imp fun v H1 h => ?_⟩
  obtain ⟨M1, x, S1, e1, rh1, rd1, p1⟩ := h
  cases x with
  | str z =>
    cases (show _ = _ from rd1)
    dsimp only at p1
    split at p1
    · rename_i hz
      exact ⟨z, rfl, hz, p1 M1 _ H1 Ext.refl rh1 rfl⟩
    · exact p1.elim
  | _ => exact p1.elim
theorem se_abs (hc : PE X e (tCB (fun xs H Q => ∃ i, xs = [.int i] ∧ Q (.int (if i < 0 then -i else i)) H) (tCons (tE (gx X) W da) tNil))) : SE X W e (eAbs da) := by
  refine hc.dimp ?_
  rintro s H Q ⟨M, r, S, en, rh, p⟩
  refine ⟨M, r, S, en, rh, p.bind.imp fun v H1 h => ?_⟩
  obtain ⟨M1, x, S1, e1, rh1, rd1, p1⟩ := h
  cases x with
  | int z =>
    cases (show _ = _ from rd1)
    exact ⟨z, rfl, p1 M1 _ H1 Ext.refl rh1 rfl⟩
  | _ => exact p1.elim
theorem se_intOf (hc : PE X e (tCB (fun xs H Q => (∃ i, xs = [.int i] ∧ Q (.int i) H) ∨ ∃ k, xs = [.bl k] ∧ Q (.int (if k then 1 else 0)) H) (tCons (tE (gx X) W da) tNil))) : SE X W e (eInt da) := by
  refine hc.dimp ?_
  rintro s H Q ⟨M, r, S, en, rh, p⟩
  refine ⟨M, r, S, en, rh, p.bind.imp fun v H1 h => ?_⟩
  obtain ⟨M1, x, S1, e1, rh1, rd1, p1⟩ := h
  cases x with
  | int z =>
    cases (show _ = _ from rd1)
    exact .inl ⟨z, rfl, p1 M1 _ H1 Ext.refl rh1 rfl⟩
  | bl z =>
    cases (show _ = _ from rd1)
    exact .inr ⟨z, rfl, p1 M1 _ H1 Ext.refl rh1 rfl⟩
  | _ => exact p1.elim
theorem se_min2 (hc : PE X e (tCB (fun xs H Q => ∃ i j, xs = [.int i, .int j] ∧ Q (.int (if j < i then j else i)) H) (tCons (tE (gx X) W da) (tCons (tE (gx X) W db) tNil)))) : SE X W e (eMin2 da db) := by
  refine hc.dimp ?_
  rintro s H Q ⟨M, r, S, en, rh, p⟩
  refine ⟨M, r, S, en, rh, (bind2 en p).imp fun v H1 h => ?_⟩
  obtain ⟨M1, S1, e1, rh1, en1, p1⟩ := h
  refine ⟨M1, r, S1, en1, rh1, p1.imp fun u H2 h => ?_⟩
  obtain ⟨M2, x, y, S2, e2, rh2, en2, rd1, rd2, p2⟩ := h
  split at p2
  · rename_i i j
    cases (show _ = _ from rd1)
    cases (show _ = _ from rd2)
    exact ⟨_, _, rfl, p2 M2 _ H2 Ext.refl rh2 rfl⟩
  · exact p2.elim
theorem se_max2 (hc : PE X e (tCB (fun xs H Q => ∃ i j, xs = [.int i, .int j] ∧ Q (.int (if j > i then j else i)) H) (tCons (tE (gx X) W da) (tCons (tE (gx X) W db) tNil)))) : SE X W e (eMax2 da db) := by
  refine hc.dimp ?_
  rintro s H Q ⟨M, r, S, en, rh, p⟩
  refine ⟨M, r, S, en, rh, (bind2 en p).imp fun v H1 h => ?_⟩
  obtain ⟨M1, S1, e1, rh1, en1, p1⟩ := h
  refine ⟨M1, r, S1, en1, rh1, p1.imp fun u H2 h => ?_⟩
  obtain ⟨M2, x, y, S2, e2, rh2, en2, rd1, rd2, p2⟩ := h
  split at p2
  · rename_i i j
    cases (show _ = _ from rd1)
    cases (show _ = _ from rd2)
    exact ⟨_, _, rfl, p2 M2 _ H2 Ext.refl rh2 rfl⟩
  · exact p2.elim
/-- isinstance(x, a built-in class) -/
theorem ty_ok {G : Gx} {M : Mp} {S : Store} {H : Hp} {x : D} {v : V} {t : String} (rh : RelH G M S H) (rd : RelD G M x v) (h : tyName S x = some t) : TyX G.K H v (.type t) := by
  cases x with
  | non => cases h; cases (show _ = _ from rd); exact .base .non
  | bl b => cases h; cases (show _ = _ from rd); exact .base (.bl b)
  | int b => cases h; cases (show _ = _ from rd); exact .base (.int b)
  | str b => cases h; cases (show _ = _ from rd); exact .base (.str b)
  | tup xs =>
    cases h
    obtain ⟨p, vs, rfl, h1, h2⟩ := rd
    rcases h1 with h1 | h1
    · exact .base (.tup (rh.tup p vs h1))
    · rcases h1 with z | ⟨o, its, n, z1, z2, z3, _⟩
      · rcases z with z | ⟨_, z⟩ <;> cases z
      · exact .kTuple z1 z2
  | lst xs =>
    cases h
    obtain ⟨p, vs, rfl, h1, h2⟩ := rd
    rcases rh.sq h1 with (z | ⟨o, z⟩) | ⟨o, its, n, z1, z2, _⟩
    · exact .base (.lst z)
    · exact .base (.frz z)
    · exact .kList z1 z2
  | ref l =>
    obtain ⟨p, rfl, h1⟩ := rd
    dsimp only [tyName] at h
    cases q : S[l]? with
    | none => rw [q] at h; cases h
    | some o =>
      rw [q] at h
      cases o with
      | lst ds =>
        cases h
        obtain ⟨a, e1, vs, e2, e3⟩ := rh.obj l _ q
        rw [h1] at e1; cases e1
        exact .base (.lst e2)
      | dct kvs =>
        obtain ⟨a, e1, e2⟩ := rh.obj l _ q
        exact e2.elim
      | ins _ _ => cases h
  | cls _ => cases h
  | fn _ => cases h
def kitOk (n : String) : Bool := ["NoneType", "bool", "int", "str", "tuple", "list", "dict"].all fun t => decide (kitB t n = some (isTy t n))
theorem se_isTy {n : String} (hn : kitOk n = true) (hc : PE X e (tCB (rIsi X.K) (tCons (tE (gx X) W da) (tCons (tC (.ty n)) tNil)))) : SE X W e (eIsTy n da) := by
  refine hc.dimp ?_
  rintro s H Q ⟨M, r, S, en, rh, p⟩
  refine ⟨M, r, S, en, rh, p.bind.imp fun v H1 h => ?_⟩
  obtain ⟨M1, x, S1, e1, rh1, rd1, p1⟩ := h
  cases q : tyName S1 x with
  | none => rw [q] at p1; exact p1.elim
  | some t =>
    rw [q] at p1
    have hk : kitB t n = some (isTy t n) := by
      unfold kitOk at hn
      rw [List.all_eq_true] at hn
      refine of_decide_eq_true (hn t ?_)
      cases x with
      | non => cases q; simp
      | bl _ => cases q; simp
      | int _ => cases q; simp
      | str _ => cases q; simp
      | tup _ => cases q; simp
      | lst _ => cases q; simp
      | ref l =>
        dsimp only [tyName] at q
        split at q
        · cases q; simp
        · cases q; simp
        · cases q
      | cls _ => cases q
      | fn _ => cases q
    exact ⟨v, .ty n, .type t, .type n, isTy t n, rfl, .ty n, ty_ok rh1 rd1 q, kit_ty hk, p1 M1 _ H1 Ext.refl rh1 rfl⟩
/-! ### objects -/
/-- what the text's class must have -/
def FldOk (G : Gx) (c f : Str) : Prop := ∀ C, G.mg c = some (.ref C) → Cls G.K C ∧ NoAttr G.K C f
theorem se_fld {f : Str} {cs : List Str} (hf : ∀ c ∈ cs, FldOk (gx X) c f) (ha : SE X W a da) (hb : attributeBase a f X.env (eval a X.env) = eval a X.env) : SE X W (.Attribute a f pos) (eFld cs f da) := by
  refine (pe_fld ha hb).dimp ?_
  rintro s H Q ⟨M, r, S, en, rh, p⟩
  refine ⟨M, r, S, en, rh, p.bind.imp fun v H1 h => ?_⟩
  obtain ⟨M1, x, S1, e1, rh1, rd1, p1⟩ := h
  cases x with
  | ref l =>
    obtain ⟨p, rfl, h1⟩ := rd1
    dsimp only at p1
    cases q : S1[l]? with
    | none => rw [q] at p1; exact p1.elim
    | some o =>
      rw [q] at p1
      cases o with
      | ins c fs =>
        dsimp only at p1
        obtain ⟨a2, x1, C, dx, vfs, x2, x3, x4⟩ := rh1.obj l _ q
        rw [h1] at x1; cases x1
        split at p1
        · rename_i hc
          obtain ⟨k1, k2⟩ := hf c hc C x3
          cases q2 : fs.lookup f with
          | none => rw [q2] at p1; exact p1.elim
          | some d =>
            rw [q2] at p1
            obtain ⟨v, y1, y2⟩ := x4.lookup q2
            exact ⟨p, C, dx, vfs, v, rfl, x2, k1, k2, y1, p1 M1 v H1 Ext.refl rh1 y2⟩
        · exact p1.elim
      | lst _ => exact p1.elim
      | dct _ => exact p1.elim
  | _ => exact p1.elim
/-- what a def is worth, as a promise -/
def spD (G : Gx) (m : Fn) : Sp := fun vs H Q E => ∃ M ds S, RelDs G M ds vs ∧ RelH G M S H ∧ Post G (RD G) (fun cls dx _ H => E cls dx H) M H [] (m ds S) Q
theorem spD_of {G : Gx} {m : Fn} {M : Mp} {ds : List D} {S : Store} {vs : List V} {H : Hp} {s : L2.St} {Q : VK} {E : XK} (h1 : RelDs G M ds vs) (h2 : RelH G M S H) (hE : ∀ cls dx H', W cls dx s H' → E cls dx H') (p : Post G (RD G) W M H s (m ds S) Q) : spD G m vs H Q E := by
  refine ⟨M, ds, S, h1, h2, ?_⟩
  cases q : m ds S with
  | ok x S1 => rw [q] at p; exact p
  | exc c fs S1 =>
    rw [q] at p
    exact fun M' H' C dx e rh g x => hE _ _ _ (p M' H' C dx e rh g x)
  | bad => rw [q] at p; exact p
/-- a def of the text, called: no exception leaves here -/
abbrev WN : WX := fun _ _ _ _ => False
abbrev EN : XK := fun _ _ _ => False
def spN (G : Gx) (m : Fn) : Sp := fun vs H Q _ => spD G m vs H Q EN
theorem se_call {m : Fn} (hc : PE X e (tCall (spN (gx X) m) [] EN (tA (gx X) WN ds))) : SE X WN e (eCall m ds) := by
  refine hc.dimp ?_
  rintro s H Q ⟨M, r, S, en, rh, p⟩
  refine ⟨M, r, S, en, rh, (Post.bind (R := RA (gx X)) p).imp fun vs H1 h => ?_⟩
  obtain ⟨M1, xs, S1, e1, rh1, rd1, p1⟩ := h
  rw [List.append_nil]
  exact spD_of rd1 rh1 (fun _ _ _ z => z) p1
theorem se_call0 {m : Fn} (hc : PE X e (tCall (spN (gx X) m) [] EN tNil)) : SE X WN e (eCall m aNil) := by
  refine hc.dimp ?_
  rintro s H Q ⟨M, r, S, en, rh, p⟩
  have p : Post (gx X) (RD (gx X)) WN M H s (m [] S) Q := p
  exact spD_of (vs := [] ++ []) (ds := []) rfl rh (fun _ _ _ z => z) p
/-- a method -/
theorem se_meth {c mn : Str} {C : Addr} {g : Fn} (hC : X.mg c = some (.ref C)) (hc : PE X e (tMeth C mn (spN (gx X) g) [] EN (tE (gx X) WN da) (tA (gx X) WN ds))) : SE X WN e (eMeth c mn g da ds) := by
  refine hc.dimp ?_
  rintro s H Q ⟨M, r, S, en, rh, p⟩
  refine ⟨M, r, S, en, rh, (Post.bind (R := RD (gx X)) p).imp fun v H1 h => ?_⟩
  obtain ⟨M1, x, S1, e1, rh1, rd1, p1⟩ := h
  cases x with
  | ref l =>
    have rd1' := rd1
    obtain ⟨pa, rfl, h1⟩ := rd1
    dsimp only at p1
    cases q : S1[l]? with
    | none => rw [q] at p1; exact p1.elim
    | some o =>
      rw [q] at p1
      cases o with
      | ins k fs =>
        dsimp only at p1
        obtain ⟨a2, x1, C2, dx, vfs, x2, x3, x4⟩ := rh1.obj l _ q
        rw [h1] at x1; cases x1
        split at p1
        · rename_i hk
          obtain ⟨rfl, hn⟩ := hk
          have x3 : X.mg k = some (.ref C2) := x3
          rw [hC] at x3
          cases x3
          refine ⟨pa, dx, vfs, rfl, x2, x4.lookupN hn, M1, r, S1, en.mono e1, rh1, (Post.bind (R := RA (gx X)) p1).imp fun vs H2 h => ?_⟩
          obtain ⟨M2, xs, S2, e2, rh2, rd2, p2⟩ := h
          rw [List.append_nil]
          exact spD_of (ds := .ref l :: xs) (RelDs.cons (RelD.mono (G := gx X) (d := .ref l) e2 rd1') rd2) rh2 (fun _ _ _ z => z) p2
        · exact p1.elim
      | lst _ => exact p1.elim
      | dct _ => exact p1.elim
  | _ => exact p1.elim
theorem se_meth0 {c mn : Str} {C : Addr} {g : Fn} (hC : X.mg c = some (.ref C)) (hc : PE X e (tMeth C mn (spN (gx X) g) [] EN (tE (gx X) WN da) tNil)) : SE X WN e (eMeth c mn g da aNil) := by
  refine hc.dimp ?_
  rintro s H Q ⟨M, r, S, en, rh, p⟩
  refine ⟨M, r, S, en, rh, (Post.bind (R := RD (gx X)) p).imp fun v H1 h => ?_⟩
  obtain ⟨M1, x, S1, e1, rh1, rd1, p1⟩ := h
  cases x with
  | ref l =>
    have rd1' := rd1
    obtain ⟨pa, rfl, h1⟩ := rd1
    dsimp only at p1
    cases q : S1[l]? with
    | none => rw [q] at p1; exact p1.elim
    | some o =>
      rw [q] at p1
      cases o with
      | ins k fs =>
        dsimp only at p1
        obtain ⟨a2, x1, C2, dx, vfs, x2, x3, x4⟩ := rh1.obj l _ q
        rw [h1] at x1; cases x1
        split at p1
        · rename_i hk
          obtain ⟨rfl, hn⟩ := hk
          have x3 : X.mg k = some (.ref C2) := x3
          rw [hC] at x3
          cases x3
          refine ⟨pa, dx, vfs, rfl, x2, x4.lookupN hn, ?_⟩
          have p1 : Post (gx X) (RD (gx X)) WN M1 H1 s (g [.ref l] S1) Q := p1
          exact spD_of (ds := [.ref l]) (vs := [.ref pa]) (RelDs.cons rd1' rfl) rh1 (fun _ _ _ z => z) p1
        · exact p1.elim
      | lst _ => exact p1.elim
      | dct _ => exact p1.elim
  | _ => exact p1.elim
end
end Dn

set_option Elab.async false
set_option linter.all false
set_option maxRecDepth 100000
set_option maxHeartbeats 4000000
/-! The rules: new lists, what is walked, comprehensions, statements, defs. -/
namespace Dn
open PySem PySem.Spec PyProof.Rows L2
/-! ### new lists -/
/-- a new list of these: no one's yet -/
def RN (G : Gx) (H0 : Hp) : Mp → Hp → List D → V → Prop := fun M H ds v => ∃ p vs, v = .ref p ∧ H p = some (.lst vs) ∧ RelDs G M ds vs ∧ (∀ l, M.loc l ≠ some p) ∧ M.lst p = none ∧ H0 p = none
def tN (G : Gx) (W : WX) (d : DA) : TE := fun s H Q => ∃ M r S, EnvR G M H r s ∧ RelH G M S H ∧ Post G (RN G H) W M H s (d r S) Q
abbrev SN (X : Cx) (W : WX) (e : Expr) (d : DA) : Prop := PE X e (tN (gx X) W d)
theorem RelH.nolst {G : Gx} {M : Mp} {S : Store} {H : Hp} {p : Addr} (rh : RelH G M S H) (hp : H p = none) : M.lst p = none := by
  cases q : M.lst p with
  | none => rfl
  | some x => rcases rh.lst p x q with z | ⟨o, z⟩ <;> (rw [hp] at z; cases z)
theorem RelH.noloc {G : Gx} {M : Mp} {S : Store} {H : Hp} {p : Addr} (rh : RelH G M S H) (hp : H p = none) : ∀ l, M.loc l ≠ some p := fun l q => by
  have hl := rh.dom l p q
  obtain ⟨a, e1, e2⟩ := rh.obj l S[l] (by simp [hl])
  rw [q] at e1; cases e1
  rw [hp] at e2
  cases hS : S[l] with
  | lst ds => rw [hS] at e2; obtain ⟨_, z, _⟩ := e2; cases z
  | ins c fs => rw [hS] at e2; obtain ⟨_, _, _, z, _⟩ := e2; cases z
  | dct _ => rw [hS] at e2; exact e2
theorem RelH.notup {G : Gx} {M : Mp} {S : Store} {H : Hp} {p : Addr} (rh : RelH G M S H) (hp : ∀ vs, H p ≠ some (.tup vs)) : M.tup p = none := by
  cases q : M.tup p with
  | none => rfl
  | some x => exact absurd (rh.tup p x q) (hp x)
/-- an object that no one knows -/
theorem RelH.other {G : Gx} {M : Mp} {S : Store} {H : Hp} {p : Addr} {o : HO} (rh : RelH G M S H) (hp : H p = none) : RelH G M S (upd H p o) := by
  have ne : ∀ b o, H b = some o → b ≠ p := fun b o h q => by rw [q, hp] at h; cases h
  refine ⟨fun l x q => ?_, rh.dom, rh.inj, fun a x h => ?_, fun a x h => ?_, rh.apt⟩
  · obtain ⟨a, e1, e2⟩ := rh.obj l x q
    refine ⟨a, e1, ?_⟩
    rw [upd_ne (fun z => rh.noloc hp l (by rw [← z]; exact e1))]
    exact e2
  · have := rh.tup a x h
    rw [upd_ne (ne a _ this)]; exact this
  · have q : a ≠ p := fun q => by rw [q, rh.nolst hp] at h; cases h
    rcases rh.lst a x h with z | ⟨o, z⟩
    · exact .inl (by rw [upd_ne q]; exact z)
    · exact .inr ⟨o, by rw [upd_ne q]; exact z⟩
theorem Ext.other {M : Mp} {H : Hp} {p : Addr} {o : HO} (hp : H p = none) : Ext M H M (upd H p o) := by
  have ne : ∀ b o, H b = some o → b ≠ p := fun b o h q => by rw [q, hp] at h; cases h
  exact ⟨fun _ _ h => h, fun _ _ h => h, fun _ _ h => h, fun _ _ h => .inl h, fun _ _ h => .inl h, fun a o h _ => by rw [upd_ne (ne a o h)]; exact h, fun a o h => ⟨o, by rw [upd_ne (ne a o h)]; exact h⟩⟩
/-- from no one's to one that stays -/
theorem frz_new {G : Gx} {M M' : Mp} {S : Store} {H H' : Hp} {p : Addr} {ds : List D} {vs : List V} (e : Ext M H M' H') (rh : RelH G M' S H') (hp : H' p = some (.lst vs)) (rd : RelDs G M' ds vs) (h1 : ∀ l, M'.loc l ≠ some p) (h2 : M'.lst p = none) (h0 : H p = none) :
    ∃ M2, Ext M H M2 H' ∧ RelH G M2 S H' ∧ RelD G M2 (.lst ds) (.ref p) ∧ Le M' M2 ∧ M2.loc = M'.loc ∧ ∀ a, a ≠ p → M2.lst a = M'.lst a := by
  have le : Le M' ⟨M'.loc, M'.tup, fun a => if a = p then some vs else M'.lst a⟩ := ⟨fun _ _ h => h, fun _ _ h => h, fun a x h => by
    have : a ≠ p := fun q => by rw [q, h2] at h; cases h
    show (if a = p then some vs else M'.lst a) = some x
    rw [if_neg this]; exact h⟩
  refine ⟨_, ⟨fun l a h => le.loc l a (e.loc l a h), fun l a h => le.tup l a (e.tup l a h), fun l a h => le.lst l a (e.lst l a h), e.new, fun a x h => ?_, e.keep, e.there⟩, ⟨fun l o q => ?_, rh.dom, rh.inj, rh.tup, fun a x h => ?_, fun a x l h => ?_⟩, ⟨p, vs, rfl, .inl (by show (if p = p then some vs else M'.lst p) = some vs; rw [if_pos rfl]), RelDs.le le rd⟩, le, rfl, fun a ha => by show (if a = p then some vs else M'.lst a) = M'.lst a; rw [if_neg ha]⟩
  · by_cases q : a = p
    · exact .inr (by rw [q]; exact h0)
    · have h' : (if a = p then some vs else M'.lst a) = some x := h
      rw [if_neg q] at h'
      exact e.newl a x h'
  · obtain ⟨a, e1, e2⟩ := rh.obj l o q
    refine ⟨a, e1, ?_⟩
    cases o with
    | lst xs => obtain ⟨ws, q1, q2⟩ := e2; exact ⟨ws, q1, RelDs.le le q2⟩
    | ins c fs =>
      obtain ⟨C, dx, vfs, q1, q2, q3⟩ := e2
      refine ⟨C, dx, vfs, q1, q2, ?_⟩
      have all : ∀ {fs : List (Str × D)} {vfs : List (Str × V)}, RelFs G M' fs vfs → RelFs G ⟨M'.loc, M'.tup, fun a => if a = p then some vs else M'.lst a⟩ fs vfs := by
        intro fs
        induction fs with
        | nil => exact fun h => h
        | cons x fs ih =>
          obtain ⟨f, d⟩ := x
          rintro _ ⟨v, r, rfl, k1, k2⟩
          exact ⟨v, r, rfl, RelD.le le k1, ih k2⟩
      exact all q3
    | dct _ => exact e2
  · by_cases q : a = p
    · have h' : (if a = p then some vs else M'.lst a) = some x := h
      rw [if_pos q] at h'
      cases h'
      rw [q]
      exact .inl hp
    · have h' : (if a = p then some vs else M'.lst a) = some x := h
      rw [if_neg q] at h'
      exact rh.lst a x h'
  · by_cases q : a = p
    · rw [q]; exact h1 l
    · have h' : (if a = p then some vs else M'.lst a) = some x := h
      rw [if_neg q] at h'
      exact rh.apt a x l h'
/-- .. to a numbered one -/
theorem loc_new {G : Gx} {M M' : Mp} {S : Store} {H H' : Hp} {p : Addr} {ds : List D} {vs : List V} (e : Ext M H M' H') (rh : RelH G M' S H') (hp : H' p = some (.lst vs)) (rd : RelDs G M' ds vs) (h1 : ∀ l, M'.loc l ≠ some p) (h2 : M'.lst p = none) (h0 : H p = none) :
    ∃ M2, Ext M H M2 H' ∧ RelH G M2 (S ++ [.lst ds]) H' ∧ RelD G M2 (.ref S.length) (.ref p) := by
  have nS : ∀ l x, M'.loc l = some x → l ≠ S.length := fun l x h q => by have := rh.dom l x h; omega
  have le : Le M' ⟨fun l => if l = S.length then some p else M'.loc l, M'.tup, M'.lst⟩ := ⟨fun l x h => by
    show (if l = S.length then some p else M'.loc l) = some x
    rw [if_neg (nS l x h)]; exact h, fun _ _ h => h, fun _ _ h => h⟩
  have all : ∀ {fs : List (Str × D)} {vfs : List (Str × V)}, RelFs G M' fs vfs → RelFs G ⟨fun l => if l = S.length then some p else M'.loc l, M'.tup, M'.lst⟩ fs vfs := by
    intro fs
    induction fs with
    | nil => exact fun h => h
    | cons x fs ih =>
      obtain ⟨f, d⟩ := x
      rintro _ ⟨v, r, rfl, k1, k2⟩
      exact ⟨v, r, rfl, RelD.le le k1, ih k2⟩
  refine ⟨_, ⟨fun l a h => le.loc l a (e.loc l a h), fun l a h => le.tup l a (e.tup l a h), fun l a h => le.lst l a (e.lst l a h), fun l x h => ?_, e.newl, e.keep, e.there⟩, ⟨fun l o q => ?_, fun l x h => ?_, fun l k x k1 k2 => ?_, rh.tup, rh.lst, fun a x l h q => ?_⟩, p, rfl, by show (if S.length = S.length then some p else M'.loc S.length) = some p; rw [if_pos rfl]⟩
  · have h' : (if l = S.length then some p else M'.loc l) = some x := h
    by_cases q : l = S.length
    · rw [if_pos q] at h'; cases h'
      exact .inr h0
    · rw [if_neg q] at h'; exact e.new l x h'
  · by_cases hl : l = S.length
    · subst hl
      rw [List.getElem?_append_right (Nat.le_refl _)] at q
      simp at q
      subst q
      exact ⟨p, by show (if S.length = S.length then some p else M'.loc S.length) = some p; rw [if_pos rfl], vs, hp, RelDs.le le rd⟩
    · have hlt : l < S.length := by
        have := (List.getElem?_eq_some_iff.mp q).1
        simp at this; omega
      rw [List.getElem?_append_left hlt] at q
      obtain ⟨a, e1, e2⟩ := rh.obj l o q
      refine ⟨a, by show (if l = S.length then some p else M'.loc l) = some a; rw [if_neg hl]; exact e1, ?_⟩
      cases o with
      | lst xs => obtain ⟨ws, q1, q2⟩ := e2; exact ⟨ws, q1, RelDs.le le q2⟩
      | ins c fs => obtain ⟨C, dx, vfs, q1, q2, q3⟩ := e2; exact ⟨C, dx, vfs, q1, q2, all q3⟩
      | dct _ => exact e2
  · have h' : (if l = S.length then some p else M'.loc l) = some x := h
    by_cases q : l = S.length
    · rw [q]; simp
    · rw [if_neg q] at h'
      have := rh.dom l x h'
      simp; omega
  · have h1' : (if l = S.length then some p else M'.loc l) = some x := k1
    have h2' : (if k = S.length then some p else M'.loc k) = some x := k2
    by_cases q1 : l = S.length <;> by_cases q2 : k = S.length
    · rw [q1, q2]
    · rw [if_pos q1] at h1'; rw [if_neg q2] at h2'; cases h1'; exact absurd h2' (h1 k)
    · rw [if_neg q1] at h1'; rw [if_pos q2] at h2'; cases h2'; exact absurd h1' (h1 l)
    · rw [if_neg q1] at h1'; rw [if_neg q2] at h2'; exact rh.inj l k x h1' h2'
  · have h' : (if l = S.length then some p else M'.loc l) = some a := q
    by_cases z : l = S.length
    · rw [if_pos z] at h'; cases h'
      rw [h2] at h; cases h
    · rw [if_neg z] at h'
      exact rh.apt a x l h h'
section
variable {X : Cx} {W : WX} {a b c e : Expr} {es : List Expr} {da db dc : DE} {ds : DA} {dl : DL} {pos : Pos}
/-- a list that stays -/
theorem frz_t {G : Gx} {s : L2.St} {H : Hp} {Q : VK} (h : tE G W (eFrz ds) s H Q) : tN G W ds s H Q := by
  obtain ⟨M, r, S, en, rh, p⟩ := h
  refine ⟨M, r, S, en, rh, ?_⟩
  unfold eFrz at p
  cases q : ds r S with
  | ok xs S1 =>
    rw [q] at p
    rintro M' v H' e rh' ⟨pa, vs, rfl, h1, h2, h3, h4, h5⟩
    obtain ⟨M2, x1, x2, x3, _, _⟩ := frz_new e rh' h1 h2 h3 h4 h5
    exact p M2 _ H' x1 x2 x3
  | exc c fs S1 => rw [q] at p; exact p
  | bad => rw [q] at p; exact p
theorem se_frz (h : SN X W e ds) : SE X W e (eFrz ds) := h.dimp fun _ _ _ => frz_t
/-- a list that changes -/
theorem new_t {G : Gx} {s : L2.St} {H : Hp} {Q : VK} (h : tE G W (eNew ds) s H Q) : tN G W ds s H Q := by
  obtain ⟨M, r, S, en, rh, p⟩ := h
  refine ⟨M, r, S, en, rh, ?_⟩
  unfold eNew at p
  cases q : ds r S with
  | ok xs S1 =>
    rw [q] at p
    rintro M' v H' e rh' ⟨pa, vs, rfl, h1, h2, h3, h4, h5⟩
    obtain ⟨M2, x1, x2, x3⟩ := loc_new e rh' h1 h2 h3 h4 h5
    exact p M2 _ H' x1 x2 x3
  | exc c fs S1 => rw [q] at p; exact p
  | bad => rw [q] at p; exact p
theorem se_new (h : SN X W e ds) : SE X W e (eNew ds) := h.dimp fun _ _ _ => new_t
/-- a display -/
theorem sn_lst (h : SA X W es ds) : SN X W (.List es pos) (nLst ds) := by
  refine (pe_lst h).dimp ?_
  rintro s H Q ⟨M, r, S, en, rh, p⟩
  refine ⟨M, r, S, en, rh, (Post.bind (R := RA (gx X)) p).imp fun vs H1 h => ?_⟩
  obtain ⟨M1, xs, S1, e1, rh1, rd1, p1⟩ := h
  split at p1
  · rename_i hl
    refine ⟨by rw [← rd1.len]; exact hl, fun q hq => ?_⟩
    refine p1 M1 _ _ (Ext.other hq) (rh1.other hq) ⟨q, vs, rfl, upd_same, rd1, rh1.noloc hq, rh1.nolst hq, ?_⟩
    cases z : H q with
    | none => rfl
    | some o =>
      obtain ⟨o', z'⟩ := e1.there q o z
      rw [hq] at z'; cases z'
  · exact p1.elim
end
/-! ### what is walked -/
/-- an iterator that walks these -/
def WalkOk (G : Gx) (M : Mp) (J : It) (w : Wk) : Prop := ∀ (i : Nat) (M1 : Mp) (S : Store) (H : Hp), Le M M1 → RelH G M1 S H → w.ok S →
  (i < w.xs.length → J.go i H ∧ ∀ x H', J.yld i H x H' → ∃ M2 d, Ext M1 H M2 H' ∧ RelH G M2 S H' ∧ w.xs[i]? = some d ∧ RelD G M2 d x) ∧ (w.xs.length ≤ i → J.stop i H)
def RW (G : Gx) : Mp → Hp → Wk → It → Prop := fun M _ w J => WalkOk G M J w ∧ w.xs.length ≤ sizeLine
def tI (G : Gx) (W : WX) (d : DI) : TI := fun s H R => ∃ M r S, EnvR G M H r s ∧ RelH G M S H ∧ Post G (RW G) W M H s (d r S) R
abbrev SI (X : Cx) (W : WX) (tg e : Expr) (d : DI) : Prop := PI X tg e (tI (gx X) W d)
theorem PI_dimp {X : Cx} {tg e : Expr} {t t' : TI} (h : PI X tg e t) (k : ∀ s H R, t' s H R → t s H R) : PI X tg e t' := ⟨fun pins st s H R I q => h.run pins st s H R I (k s H R q)⟩
/-- how a list lies that is walked -/
def LstAt (G : Gx) (M : Mp) (w : Wk) (p : Addr) : Prop := ∀ (M1 : Mp) (S : Store) (H : Hp), Le M M1 → RelH G M1 S H → w.ok S → ∃ vs, SqL G.K H p vs ∧ RelDs G M1 w.xs vs
theorem lst_at {G : Gx} {M : Mp} {S : Store} {H : Hp} {d : D} {v : V} {w : Wk} (rh : RelH G M S H) (rd : RelD G M d v) (h : wkL S d = some w) : ∃ p vs, v = .ref p ∧ LstAt G M w p ∧ SqL G.K H p vs ∧ RelDs G M w.xs vs := by
  cases d with
  | lst xs =>
    cases h
    obtain ⟨p, vs, rfl, h1, h2⟩ := rd
    exact ⟨p, vs, rfl, fun M1 S1 H1 le rh1 _ => ⟨vs, rh1.sq (h1.imp (le.lst p vs) id), RelDs.le le h2⟩, rh.sq h1, h2⟩
  | ref l =>
    obtain ⟨p, rfl, h1⟩ := rd
    dsimp only [wkL, wkOf] at h
    split at h
    · rename_i xs q
      cases h
      obtain ⟨a, e1, vs, e2, e3⟩ := rh.obj l _ q
      rw [h1] at e1; cases e1
      refine ⟨p, vs, rfl, fun M1 S1 H1 le rh1 hk => ?_, .inl (.inl e2), e3⟩
      obtain ⟨a, x1, ws, x2, x3⟩ := rh1.obj l _ hk
      rw [le.loc l p h1] at x1; cases x1
      exact ⟨ws, .inl (.inl x2), x3⟩
    · cases h
  | _ => cases h
theorem walk_list {G : Gx} {M : Mp} {p : Addr} {w : Wk} (hl : LstAt G M w p) : WalkOk G M (Itl G.K p) w := by
  intro i M1 S H le rh hk
  obtain ⟨vs, hs, h2⟩ := hl M1 S H le rh hk
  refine ⟨fun hi => ?_, fun hi => ⟨vs, hs, by rw [← h2.len]; exact hi⟩⟩
  obtain ⟨d, hd⟩ : ∃ d, w.xs[i]? = some d := ⟨w.xs[i], by simp [hi]⟩
  obtain ⟨v, hv, rv⟩ := h2.get hd
  refine ⟨⟨vs, v, hs, hv⟩, fun x H' y => ?_⟩
  obtain ⟨rfl, y⟩ := y
  have := y vs hs
  rw [hv] at this
  cases this
  exact ⟨M1, d, Ext.refl, rh, hd, rv⟩
theorem walk_tup {G : Gx} {M : Mp} {p : Addr} {vs : List V} {xs : List D} (h1 : M.tup p = some vs ∨ SqT G.K noHp p vs) (h2 : RelDs G M xs vs) : WalkOk G M (Itt G.K p) (wkS xs) := by
  intro i M1 S H le rh _
  have hs : SqT G.K H p vs := by
    rcases h1 with h1 | h1
    · exact .inl (.inl (rh.tup p vs (le.tup p vs h1)))
    · rcases h1 with z | z
      · rcases z with z | ⟨_, z⟩ <;> cases z
      · exact .inr z
  refine ⟨fun hi => ?_, fun hi => ⟨vs, hs, by rw [← h2.len]; exact hi⟩⟩
  obtain ⟨d, hd⟩ : ∃ d, (wkS xs).xs[i]? = some d := ⟨(wkS xs).xs[i], by simp [hi]⟩
  obtain ⟨v, hv, rv⟩ := h2.get hd
  refine ⟨⟨vs, v, hs, hv⟩, fun x H' y => ?_⟩
  obtain ⟨rfl, y⟩ := y
  have := y vs hs
  rw [hv] at this
  cases this
  exact ⟨M1, d, Ext.refl, rh, hd, RelD.le le rv⟩
theorem walk_range {G : Gx} {M : Mp} (lo hi : Int) : WalkOk G M (Itr lo (hi - lo).toNat) (wkS (rangeD lo hi)) := by
  intro i M1 S H le rh _
  have hl : (wkS (rangeD lo hi)).xs.length = (hi - lo).toNat := by simp [rangeD, wkS]
  refine ⟨fun h => ?_, fun h => by show (hi - lo).toNat ≤ i; omega⟩
  refine ⟨by show i < (hi - lo).toNat; omega, fun x H' y => ?_⟩
  obtain ⟨rfl, rfl⟩ := y
  refine ⟨M1, .int (lo + i), Ext.refl, rh, ?_, rfl⟩
  rw [hl] at h
  simp [rangeD, wkS, h]
/-- a tuple or a list, whichever it is -/
def iSeq (K : PySem.W.Frag) (tl : TE) : TI := fun s H R => tl s H fun x H1 => ∃ a, x = .ref a ∧ ((∃ xs, SqL K H1 a xs ∧ (xs.length ≤ sizeLine → R (Itl K a) H1)) ∨ (∃ xs, SqT K H1 a xs ∧ (xs.length ≤ sizeLine → R (Itt K a) H1)))
theorem pi_seq {X : Cx} {tg l : Expr} {tl : TE} (hl : PE X l tl) : PI X tg l (iSeq X.K tl) := by
  refine ⟨fun pins s z H R I h => ?_⟩
  refine thn (hl.run pins s z H _ I h) fun v s1 ⟨x, H1, I1, r1, q1⟩ => ?_
  obtain ⟨a, e, q⟩ := q1
  subst e
  cases r1
  rcases q with ⟨xs, hq, q⟩ | ⟨xs, hq, q⟩
  · obtain ⟨its, rv, p, hz⟩ := I1.list hq
    replace q := q hz
    refine wpAny_pyIter_list p.isList ?_
    refine ⟨s1.heap.objs.size, [s1.heap.objs.size], _, _, H1, rfl, I1.kept (t' := s1.toks) fun b o e => Heap.get?_push_of_some _ e, turn_list a _, ⟨_, Heap.get?_push_size _ rfl, rfl, rfl⟩, fun b hb => ?_, q⟩
    have e : b = s1.heap.objs.size := by simpa using hb
    subst e
    exact I1.fpOk (Nat.le_refl _) (I1.hok.fresh (Nat.le_refl _))
  · obtain ⟨its, rv, p, hz⟩ := I1.tuple hq
    replace q := q hz
    refine wpAny_pyIter_tuple (show s1.heap.IsTuple a its.toArray from p) ?_
    refine ⟨s1.heap.objs.size, [s1.heap.objs.size], _, _, H1, rfl, I1.kept (t' := s1.toks) fun b o e => Heap.get?_push_of_some _ e, turn_tuple a _, ⟨_, Heap.get?_push_size _ rfl, rfl, rfl⟩, fun b hb => ?_, q⟩
    have e : b = s1.heap.objs.size := by simpa using hb
    subst e
    exact I1.fpOk (Nat.le_refl _) (I1.hok.fresh (Nat.le_refl _))
section
variable {X : Cx} {W : WX} {a b c e tg : Expr} {es : List Expr} {da db dc : DE} {ds : DA} {dl : DL} {pos : Pos}
theorem si_seq (h : SE X W a da) : SI X W tg a (iSeqD da) := by
  refine PI_dimp (pi_seq h) ?_
  rintro s H Q ⟨M, r, S, en, rh, p⟩
  refine ⟨M, r, S, en, rh, p.bind.imp fun v H1 h => ?_⟩
  obtain ⟨M1, x, S1, e1, rh1, rd1, p1⟩ := h
  have go : ∀ {w : Wk}, wkL S1 x = some w → Post (gx X) (RW (gx X)) W M1 H1 s (.ok w S1) Q → ∃ a, v = .ref a ∧ ((∃ xs, SqL X.K H1 a xs ∧ (xs.length ≤ sizeLine → Q (Itl X.K a) H1)) ∨ (∃ xs, SqT X.K H1 a xs ∧ (xs.length ≤ sizeLine → Q (Itt X.K a) H1))) := fun {w} hw p1 => by
    obtain ⟨q, vs, rfl, h1, h2, h3⟩ := lst_at rh1 rd1 hw
    exact ⟨q, rfl, .inl ⟨vs, h2, fun hz => p1 M1 _ H1 Ext.refl rh1 ⟨walk_list h1, by rw [h3.len]; exact hz⟩⟩⟩
  cases x with
  | tup xs =>
    obtain ⟨q, vs, rfl, h1, h2⟩ := rd1
    have h3 : SqT X.K H1 q vs := by
      rcases h1 with h1 | h1
      · exact .inl (.inl (rh1.tup q vs h1))
      · rcases h1 with z | z
        · rcases z with z | ⟨_, z⟩ <;> cases z
        · exact .inr z
    exact ⟨q, rfl, .inr ⟨vs, h3, fun hz => p1 M1 _ H1 Ext.refl rh1 ⟨walk_tup h1 h2, by show xs.length ≤ _; rw [h2.len]; exact hz⟩⟩⟩
  | lst xs => exact go rfl p1
  | ref l =>
    cases q : wkOf S1 (.ref l) with
    | none => rw [q] at p1; exact p1.elim
    | some w => rw [q] at p1; exact go q p1
  | _ => exact p1.elim
theorem enumD_at : ∀ (k : Nat) (xs : List D) (i : Nat), (enumD k xs)[i]? = (xs[i]?).map fun x => .tup [.int ((k + i : Nat) : Int), x]
  | _, [], _ => by simp [enumD]
  | k, x :: xs, 0 => by simp [enumD]
  | k, x :: xs, i + 1 => by
    simp only [enumD, List.getElem?_cons_succ]
    rw [enumD_at (k + 1) xs i]
    have : k + 1 + i = k + (i + 1) := by omega
    rw [this]
theorem enumD_len : ∀ (k : Nat) (xs : List D), (enumD k xs).length = xs.length
  | _, [] => rfl
  | k, _ :: xs => by simp [enumD, enumD_len (k + 1) xs]
theorem walk_enum {G : Gx} {M : Mp} {p : Addr} {w : Wk} (hl : LstAt G M w p) : WalkOk G M (Ite G.K p) ⟨enumD 0 w.xs, w.ok⟩ := by
  intro i M1 S H le rh hk
  obtain ⟨vs, hs, h2⟩ := hl M1 S H le rh hk
  refine ⟨fun hi => ?_, fun hi => ⟨vs, hs, by rw [← h2.len]; have hi : (enumD 0 w.xs).length ≤ i := hi; rw [enumD_len] at hi; exact hi⟩⟩
  have hi : i < (enumD 0 w.xs).length := hi
  rw [enumD_len] at hi
  obtain ⟨d, hd⟩ : ∃ d, w.xs[i]? = some d := ⟨w.xs[i], by simp [hi]⟩
  obtain ⟨v, hv, rv⟩ := h2.get hd
  refine ⟨⟨vs, v, hs, hv⟩, fun x H' y => ?_⟩
  obtain ⟨T, z, rfl, hT, rfl, y⟩ := y
  have := y vs hs
  rw [hv] at this
  cases this
  have rds : RelDs G M1 [.int (i : Nat), d] [.int (i : Nat), v] := RelDs.cons rfl (RelDs.cons rv rfl)
  obtain ⟨M2, x1, x2, x3⟩ := Ext.tupNew rh hT rds
  refine ⟨M2, .tup [.int (i : Nat), d], x1, x2, ?_, x3⟩
  show (enumD 0 w.xs)[i]? = _
  rw [enumD_at, hd]
  simp
theorem si_enum (h : PI X tg e (iEnum X.K (tCons (tE (gx X) W da) tNil))) : SI X W tg e (iEnumD da) := by
  refine PI_dimp h ?_
  rintro s H Q ⟨M, r, S, en, rh, p⟩
  refine ⟨M, r, S, en, rh, p.bind.imp fun v H1 h => ?_⟩
  obtain ⟨M1, x, S1, e1, rh1, rd1, p1⟩ := h
  cases q : wkL S1 x with
  | none => rw [q] at p1; exact p1.elim
  | some w =>
    rw [q] at p1
    obtain ⟨q, vs, rfl, h1, h2, h3⟩ := lst_at rh1 rd1 q
    dsimp only at p1
    split at p1
    · rename_i hz
      exact ⟨q, vs, rfl, h2, p1 M1 _ H1 Ext.refl rh1 ⟨walk_enum h1, by show (enumD 0 w.xs).length ≤ sizeLine; rw [enumD_len]; exact hz⟩⟩
    · exact p1.elim
theorem si_range1 (h : PI X tg e (iRng1 (tCons (tE (gx X) W da) tNil))) : SI X W tg e (iRange1 da) := by
  refine PI_dimp h ?_
  rintro s H Q ⟨M, r, S, en, rh, p⟩
  refine ⟨M, r, S, en, rh, p.bind.imp fun v H1 h => ?_⟩
  obtain ⟨M1, x, S1, e1, rh1, rd1, p1⟩ := h
  cases x with
  | int j =>
    cases (show _ = _ from rd1)
    dsimp only at p1
    split at p1
    · rename_i hc
      unfold rOk at hc
      simp only [Bool.and_eq_true, decide_eq_true_eq] at hc
      have w := walk_range (G := gx X) (M := M1) 0 j
      rw [Int.sub_zero] at w
      exact ⟨j, rfl, hc.1.1, hc.1.2, p1 M1 _ H1 Ext.refl rh1 ⟨w, by simp only [wkS, rangeD, List.length_map, List.length_range]; have := hc.2; omega⟩⟩
    · exact p1.elim
  | _ => exact p1.elim
theorem si_range2 (h : PI X tg e (iRng2 (tCons (tE (gx X) W da) (tCons (tE (gx X) W db) tNil)))) : SI X W tg e (iRange2 da db) := by
  refine PI_dimp h ?_
  rintro s H Q ⟨M, r, S, en, rh, p⟩
  refine ⟨M, r, S, en, rh, (bind2 en p).imp fun v H1 h => ?_⟩
  obtain ⟨M1, S1, e1, rh1, en1, p1⟩ := h
  refine ⟨M1, r, S1, en1, rh1, p1.imp fun u H2 h => ?_⟩
  obtain ⟨M2, x, y, S2, e2, rh2, en2, rd1, rd2, p2⟩ := h
  split at p2
  · rename_i i j
    split at p2
    · rename_i hc
      unfold rOk at hc
      simp only [Bool.and_eq_true, decide_eq_true_eq] at hc
      cases (show _ = _ from rd1)
      cases (show _ = _ from rd2)
      exact ⟨i, j, rfl, ⟨hc.1.1.1, hc.1.1.2, hc.1.2.1, hc.1.2.2⟩, p2 M2 _ H2 Ext.refl rh2 ⟨walk_range i j, by simp only [wkS, rangeD, List.length_map, List.length_range]; have := hc.2; omega⟩⟩
    · exact p2.elim
  · exact p2.elim
/-! ### targets -/
/-- some names got values -/
structure Upd (G : Gx) (M : Mp) (is : List Nat) (r : Rho) (s : L2.St) (r' : Rho) (s' : L2.St) : Prop where
  lr : r'.length = r.length
  ls : s'.length = s.length
  eq : ∀ (i : Nat), (r'[i]? = r[i]? ∧ s'[i]? = s[i]?) ∨ (i ∈ is ∧ ∃ d v, r'[i]? = some (Sl.val d) ∧ s'[i]? = some (some v) ∧ RelD G M d v)
theorem Upd.refl {G : Gx} {M : Mp} {is : List Nat} {r : Rho} {s : L2.St} : Upd G M is r s r s := ⟨rfl, rfl, fun _ => .inl ⟨rfl, rfl⟩⟩
theorem Upd.trans {G : Gx} {M : Mp} {is js : List Nat} {r r1 r2 : Rho} {s s1 s2 : L2.St} (a : Upd G M is r s r1 s1) (b : Upd G M js r1 s1 r2 s2) : Upd G M (is ++ js) r s r2 s2 :=
  ⟨b.lr.trans a.lr, b.ls.trans a.ls, fun i => by
    rcases b.eq i with ⟨h1, h2⟩ | ⟨hj, h⟩
    · rcases a.eq i with ⟨k1, k2⟩ | ⟨hi, d, v, k1, k2, k3⟩
      · exact .inl ⟨h1.trans k1, h2.trans k2⟩
      · exact .inr ⟨List.mem_append_left _ hi, d, v, h1.trans k1, h2.trans k2, k3⟩
    · exact .inr ⟨List.mem_append_right _ hj, h⟩⟩
theorem Upd.set {G : Gx} {M : Mp} {r : Rho} {s : L2.St} {i : Nat} {d : D} {v : V} (hl : r.length = s.length) (hi : i < r.length) (h : RelD G M d v) : Upd G M [i] r s (r.set i (.val d)) (s.set i (some v)) :=
  ⟨List.length_set, List.length_set, fun j => by
    by_cases e : j = i
    · subst e
      exact .inr ⟨by simp, d, v, List.getElem?_set_self hi, List.getElem?_set_self (by omega), h⟩
    · exact .inl ⟨List.getElem?_set_ne (Ne.symm e), List.getElem?_set_ne (Ne.symm e)⟩⟩
theorem EnvR.upd {G : Gx} {M : Mp} {H : Hp} {is : List Nat} {r r' : Rho} {s s' : L2.St} (h : EnvR G M H r s) (u : Upd G M is r s r' s') : EnvR G M H r' s' := by
  refine ⟨by rw [u.lr, u.ls]; exact h.len, fun i x q => ?_, fun i j xs ys a h1 h2 h3 h4 => ?_⟩
  · rcases u.eq i with ⟨e1, e2⟩ | ⟨_, d, v, e1, e2, e3⟩
    · rw [e1] at q
      rw [e2]
      exact h.sl i x q
    · rw [e1] at q
      cases q
      exact ⟨_, e2, v, rfl, e3⟩
  · have back : ∀ (k : Nat) (zs : List D), r'[k]? = some (Sl.own zs) → r[k]? = some (Sl.own zs) ∧ s'[k]? = s[k]? := fun k zs q => by
      rcases u.eq k with ⟨e1, e2⟩ | ⟨_, d, v, e1, _, _⟩
      · exact ⟨by rw [← e1]; exact q, e2⟩
      · rw [e1] at q; cases q
    obtain ⟨b1, b2⟩ := back i xs h1
    obtain ⟨b3, b4⟩ := back j ys h2
    exact h.apt i j xs ys a b1 b3 (b2 ▸ h3) (b4 ▸ h4)
theorem Wst.upd {G : Gx} {M0 : Mp} {H0 : Hp} {M : Mp} {H : Hp} {is : List Nat} {r r' : Rho} {S : Store} {s s' : L2.St} (h : Wst G M0 H0 M r S s H) (u : Upd G M is r s r' s') : Wst G M0 H0 M r' S s' H :=
  ⟨h.env.upd u, h.heap, h.ext, fun i xs a h1 h2 => by
    rcases u.eq i with ⟨e1, e2⟩ | ⟨_, d, v, e1, _, _⟩
    · exact h.own i xs a (by rw [← e1]; exact h1) (by rw [← e2]; exact h2)
    · rw [e1] at h1; cases h1⟩
def GOk (G : Gx) (is : List Nat) (g : TG) (d : DG) : Prop := ∀ (M : Mp) (H : Hp) (r r' : Rho) (s : L2.St) (S : Store) (x : D) (v : V) (Q : L2.St → Hp → Prop), r.length = s.length → RelH G M S H → RelD G M x v → d x r S = some r' →
  (∀ s', Upd G M is r s r' s' → Q s' H) → g v s H Q
def GsOk (G : Gx) (is : List Nat) (g : TGs) (d : List D → Rho → Store → Option Rho) : Prop := ∀ (M : Mp) (H : Hp) (r r' : Rho) (s : L2.St) (S : Store) (xs : List D) (vs : List V) (Q : L2.St → Hp → Prop), r.length = s.length → RelH G M S H → RelDs G M xs vs → d xs r S = some r' →
  (∀ s', Upd G M is r s r' s' → Q s' H) → g vs s H Q
theorem g_name {G : Gx} {i : Nat} : GOk G [i] (gName i) (gNameD i) := by
  intro M H r r' s S x v Q hl rh rd e k
  unfold gNameD at e
  split at e
  · rename_i hi
    cases e
    exact k _ (Upd.set hl hi rd)
  · cases e
theorem gs_nil {G : Gx} : GsOk G [] gNil gsNil := by
  intro M H r r' s S xs vs Q hl rh rd e k
  unfold gsNil at e
  cases xs with
  | nil =>
    cases e
    cases (show _ = _ from rd)
    exact ⟨rfl, k s Upd.refl⟩
  | cons _ _ => cases e
theorem gs_cons {G : Gx} {is js : List Nat} {g : TG} {h : TGs} {d : DG} {ds : List D → Rho → Store → Option Rho} (h1 : GOk G is g d) (h2 : GsOk G js h ds) : GsOk G (is ++ js) (gCons g h) (gsCons d ds) := by
  intro M H r r' s S xs vs Q hl rh rd e k
  unfold gsCons at e
  cases xs with
  | nil => cases e
  | cons x xs =>
    obtain ⟨v, vs', rfl, rd1, rd2⟩ := rd
    dsimp only at e
    cases q : d x r S with
    | none => rw [q] at e; cases e
    | some r1 =>
      rw [q] at e
      refine ⟨v, vs', rfl, h1 M H r r1 s S x v _ hl rh rd1 q fun s1 u1 => ?_⟩
      exact h2 M H r1 r' s1 S xs vs' Q (by rw [u1.lr, u1.ls]; exact hl) rh rd2 e fun s2 u2 => k s2 (u1.trans u2)
theorem g_tup {G : Gx} {n : Nat} {is : List Nat} {h : TGs} {ds : List D → Rho → Store → Option Rho} (h2 : GsOk G is h ds) : GOk G is (gTup G.K n h) (gTupD n ds) := by
  intro M H r r' s S x v Q hl rh rd e k
  unfold gTupD at e
  cases x with
  | tup xs =>
    dsimp only at e
    split at e
    · rename_i hn
      obtain ⟨p, vs, rfl, q1, q2⟩ := tup_ok rh rd
      exact ⟨p, vs, rfl, q1, by rw [← q2.len]; exact hn, h2 M H r r' s S xs vs Q hl rh q2 e k⟩
    · cases e
  | _ => cases e
end
/-! ### comprehensions -/
theorem wipe_at {s : L2.St} {i : Nat} : ∀ {vs : List Nat}, i ∈ vs → (wipe s vs)[i]? = if i < s.length then some none else none
  | [], h => absurd h (by simp)
  | v :: vs, h => by
    unfold wipe
    by_cases e : v = i
    · subst e
      by_cases hi : v < s.length
      · rw [if_pos hi, List.getElem?_set_self (by rw [wipe_length]; exact hi)]
      · rw [if_neg hi, List.getElem?_eq_none (by rw [List.length_set, wipe_length]; omega)]
    · rw [List.getElem?_set_ne e]
      exact wipe_at (by rcases List.mem_cons.mp h with z | z; exact absurd z.symm e; exact z)
theorem wipe_same {s s' : L2.St} {vs : List Nat} (hl : s'.length = s.length) (h : ∀ i, i ∉ vs → s'[i]? = (wipe s vs)[i]?) : wipe s' vs = wipe s vs := by
  apply List.ext_getElem?
  intro i
  by_cases hi : i ∈ vs
  · rw [wipe_at hi, wipe_at hi, hl]
  · rw [wipe_out hi, h i hi]
theorem wipeD_len {r : Rho} : ∀ {vs : List Nat}, (wipeD r vs).length = r.length
  | [] => rfl
  | v :: vs => by unfold wipeD; rw [List.length_set, wipeD_len]
theorem EnvR.wipe {G : Gx} {M : Mp} {H : Hp} {r : Rho} {s : L2.St} (h : EnvR G M H r s) : ∀ {vs : List Nat}, EnvR G M H (wipeD r vs) (L2.wipe s vs)
  | [] => h
  | v :: vs => by
    have ih := EnvR.wipe h (vs := vs)
    unfold wipeD L2.wipe
    refine ⟨by rw [List.length_set, List.length_set]; exact ih.len, fun i x q => ?_, fun i j xs ys a h1 h2 h3 h4 => ?_⟩
    · by_cases e : i = v
      · subst e
        have hi : i < (wipeD r vs).length := by
          have := (List.getElem?_eq_some_iff.mp q).1
          rwa [List.length_set] at this
        rw [List.getElem?_set_self hi] at q
        cases q
        exact ⟨none, List.getElem?_set_self (by rw [← ih.len]; exact hi), trivial⟩
      · rw [List.getElem?_set_ne (Ne.symm e)] at q ⊢
        exact ih.sl i x q
    · have back : ∀ (k : Nat) (zs : List D), ((wipeD r vs).set v .un)[k]? = some (Sl.own zs) → k ≠ v ∧ (wipeD r vs)[k]? = some (Sl.own zs) := fun k zs q => by
        by_cases e : k = v
        · subst e
          have hi : k < (wipeD r vs).length := by
            have := (List.getElem?_eq_some_iff.mp q).1
            rwa [List.length_set] at this
          rw [List.getElem?_set_self hi] at q
          cases q
        · rw [List.getElem?_set_ne (Ne.symm e)] at q
          exact ⟨e, q⟩
      obtain ⟨e1, b1⟩ := back i xs h1
      obtain ⟨e2, b2⟩ := back j ys h2
      rw [List.getElem?_set_ne (Ne.symm e1)] at h3
      rw [List.getElem?_set_ne (Ne.symm e2)] at h4
      exact ih.apt i j xs ys a b1 b2 h3 h4
theorem Post.noX {a b : Type} {a2 b2 : Type} {G : Gx} {R : Mp → Hp → a → b → Prop} {R2 : Mp → Hp → a2 → b2 → Prop} {W : WX} {M : Mp} {H : Hp} {s s' : L2.St} {Q2 : b2 → Hp → Prop} {x : Rs a} {f : a → Store → Rs a2} (h : Post G R2 W M H s ((noX x).bind f) Q2) :
    Post G R (fun _ _ _ _ => False) M H s' x fun y H1 => ∃ M1 v S1, Ext M H M1 H1 ∧ RelH G M1 S1 H1 ∧ R M1 H1 v y ∧ Post G R2 W M1 H1 s (f v S1) Q2 := by
  cases x with
  | ok v S => exact fun M1 y H1 e rh q => ⟨M1, v, S, e, rh, q, Post.mono e h⟩
  | exc c fs S => exact h.elim
  | bad => exact h
theorem Rs.bind_assoc {a b c : Type} (x : Rs a) (f : a → Store → Rs b) (g : b → Store → Rs c) : (x.bind f).bind g = x.bind fun v S => (f v S).bind g := by cases x <;> rfl
theorem Rs.bind_eta {a : Type} (x : Rs a) : (x.bind fun v S => .ok v S) = x := by cases x <;> rfl
/-- an object that no one knows changes -/
theorem RelH.unk {G : Gx} {M : Mp} {S : Store} {H : Hp} {p : Addr} {vs : List V} {o : HO} (rh : RelH G M S H) (hp : H p = some (.lst vs)) (n1 : ∀ l, M.loc l ≠ some p) (n2 : M.lst p = none) : RelH G M S (upd H p o) := by
  refine ⟨fun l x q => ?_, rh.dom, rh.inj, fun a x h => ?_, fun a x h => ?_, rh.apt⟩
  · obtain ⟨a, e1, e2⟩ := rh.obj l x q
    refine ⟨a, e1, ?_⟩
    rw [upd_ne (fun z => n1 l (by rw [← z]; exact e1))]
    exact e2
  · have := rh.tup a x h
    have q : a ≠ p := fun q => by rw [q, hp] at this; cases this
    rw [upd_ne q]; exact this
  · have q : a ≠ p := fun q => by rw [q, n2] at h; cases h
    rcases rh.lst a x h with z | ⟨o, z⟩
    · exact .inl (by rw [upd_ne q]; exact z)
    · exact .inr ⟨o, by rw [upd_ne q]; exact z⟩
theorem Ext.unk {M M' : Mp} {H H' : Hp} {p : Addr} {o : HO} (e : Ext M H M' H') (hp : H p = none) : Ext M H M' (upd H' p o) := by
  have ne : ∀ b o, H b = some o → b ≠ p := fun b o h q => by rw [q, hp] at h; cases h
  exact ⟨e.loc, e.tup, e.lst, e.new, e.newl, fun a o h n => by rw [upd_ne (ne a o h)]; exact e.keep a o h n, fun a o h => by
    obtain ⟨o', h'⟩ := e.there a o h
    exact ⟨o', by rw [upd_ne (ne a o h)]; exact h'⟩⟩
theorem Post.noXb {a b : Type} {a2 b2 : Type} {G : Gx} {R : Mp → Hp → a → b → Prop} {R2 : Mp → Hp → a2 → b2 → Prop} {W : WX} {Mb M : Mp} {Hb H : Hp} {s s' : L2.St} {Q2 : b2 → Hp → Prop} {x : Rs a} {f : a → Store → Rs a2} (h : Post G R2 W Mb Hb s ((Dn.noX x).bind f) Q2) :
    Post G R (fun _ _ _ _ => False) M H s' x fun y H1 => ∃ M1 v S1, Ext M H M1 H1 ∧ RelH G M1 S1 H1 ∧ R M1 H1 v y ∧ Post G R2 W Mb Hb s (f v S1) Q2 := by
  cases x with
  | ok v S => exact fun M1 y H1 e rh q => ⟨M1, v, S, e, rh, q, h⟩
  | exc c fs S => exact h.elim
  | bad => exact h
/-- the reading of a comprehension -/
theorem lc_t {G : Gx} {W : WX} {di : DI} {g : TG} {d : DG} {dt : DT} {de : DE} {is vs : List Nat} {s : L2.St} {H : Hp} {Q : VK} (hg : GOk G is g d) (hv : ∀ i ∈ is, i ∈ vs) (h : tN G W (nLc di d dt de vs) s H Q) :
    tLc (tI G W di) g (tT G (fun _ _ _ _ => False) dt) (tE G (fun _ _ _ _ => False) de) vs s H Q := by
  obtain ⟨M, r, S, en, rh, p⟩ := h
  refine ⟨M, r, S, en, rh, (Post.bind (R := RW G) p).imp fun J H1 h => ?_⟩
  obtain ⟨M1, ⟨xs, ok⟩, S1, e1, rh1, ⟨wk, hz⟩, p1⟩ := h
  dsimp only at hz p1
  intro p0 hp0
  have en1 := (en.mono e1).wipe (vs := vs)
  have h0 : H p0 = none := by
    cases z : H p0 with
    | none => rfl
    | some o =>
      obtain ⟨o', z'⟩ := e1.there p0 o z
      rw [hp0] at z'; cases z'
  refine ⟨fun i m H2 => m = xs.length - i ∧ i ≤ xs.length ∧ ∃ M2 S2 acc ys, Ext M1 H1 M2 H2 ∧ RelH G M2 S2 H2 ∧ H2 p0 = some (.lst acc) ∧ RelDs G M2 ys acc ∧ (∀ l, M2.loc l ≠ some p0) ∧ M2.lst p0 = none ∧ acc.length ≤ i ∧
    Post G (RN G H) W M1 H1 s ((lcGo ok d dt de (wipeD r vs) (xs.drop i) S2).bind fun zs S => .ok (ys ++ zs) S) Q, ⟨xs.length, by simp, Nat.zero_le _, M1, S1, [], [], Ext.other hp0, rh1.other hp0, upd_same, RelDs.nil, rh1.noloc hp0, rh1.nolst hp0, Nat.zero_le _, ?_⟩, ?_⟩
  · simp only [List.drop_zero, List.nil_append]
    rw [Rs.bind_eta]
    exact p1
  rintro i m H2 ⟨rfl, hi, M2, S2, acc, ys, e2, rh2, hacc, rd2, n1, n2, hl, pp⟩
  have hok : ok S2 := by
    cases q : xs.drop i with
    | nil =>
      rw [q] at pp
      unfold lcGo at pp
      split at pp
      · assumption
      · exact pp.elim
    | cons _ _ =>
      rw [q] at pp
      unfold lcGo at pp
      split at pp
      · assumption
      · exact pp.elim
  obtain ⟨wgo, wstop⟩ := wk i M2 S2 H2 e2.le rh2 hok
  by_cases hlt : i < xs.length
  · refine .inr ⟨(wgo hlt).1, ?_⟩
    refine ⟨fun H' => i + 1 ≤ xs.length ∧ ∃ M2 S2 acc ys, Ext M1 H1 M2 H' ∧ RelH G M2 S2 H' ∧ H' p0 = some (.lst acc) ∧ RelDs G M2 ys acc ∧ (∀ l, M2.loc l ≠ some p0) ∧ M2.lst p0 = none ∧ acc.length ≤ i + 1 ∧
      Post G (RN G H) W M1 H1 s ((lcGo ok d dt de (wipeD r vs) (xs.drop (i + 1)) S2).bind fun zs S => .ok (ys ++ zs) S) Q, fun H' h => ⟨xs.length - (i + 1), by omega, rfl, h⟩, fun x H3 y => ?_⟩
    obtain ⟨M3, dx, e3, rh3, hdx, rd3⟩ := (wgo hlt).2 x H3 y
    have hdrop : xs.drop i = dx :: xs.drop (i + 1) := by
      have e : xs[i] = dx := by
        have := hdx
        rw [List.getElem?_eq_getElem hlt] at this
        exact Option.some.inj this
      rw [List.drop_eq_getElem_cons hlt, e]
    rw [hdrop] at pp
    unfold lcGo at pp
    rw [if_pos hok] at pp
    cases hgd : d dx (wipeD r vs) S2 with
    | none => rw [hgd] at pp; exact pp.elim
    | some r2 =>
      rw [hgd] at pp
      dsimp only at pp
      rw [Rs.bind_assoc] at pp
      have en3 := (en1.mono e2).mono e3
      refine hg M3 H3 (wipeD r vs) r2 (L2.wipe s vs) S2 dx x _ en3.len rh3 rd3 hgd fun s2 u => ⟨?_, ?_⟩
      · refine wipe_same (by rw [u.ls, wipe_length]) fun j hj => ?_
        rcases u.eq j with ⟨_, q⟩ | ⟨q, _⟩
        · exact q
        · exact absurd (hv j q) hj
      have keep : ∀ {M4 : Mp} {H4 : Hp}, Ext M2 H2 M4 H4 → H4 p0 = some (.lst acc) ∧ (∀ l, M4.loc l ≠ some p0) ∧ M4.lst p0 = none := fun {M4} {H4} e4 => by
        refine ⟨e4.keep _ _ hacc n1, fun l q => ?_, ?_⟩
        · rcases e4.new l p0 q with z | z
          · exact n1 l z
          · rw [hacc] at z; cases z
        · cases q : M4.lst p0 with
          | none => rfl
          | some z =>
            rcases e4.newl p0 z q with w | w
            · rw [n2] at w; cases w
            · rw [hacc] at w; cases w
      refine ⟨M3, r2, S2, en3.upd u, rh3, (Post.noXb (R := RB) pp).imp fun b H4 h => ?_⟩
      obtain ⟨M4, b', S4, e4, rh4, rb, p4⟩ := h
      obtain rfl : b' = b := rb
      cases b' with
      | false =>
        simp only [Bool.false_eq_true, if_false] at p4 ⊢
        obtain ⟨k1, k2, k3⟩ := keep (e3.trans e4)
        exact ⟨hlt, M4, S4, acc, ys, (e2.trans e3).trans e4, rh4, k1, rd2.mono (e3.trans e4), k2, k3, by omega, p4⟩
      | true =>
        simp only [if_true] at p4 ⊢
        rw [Rs.bind_assoc] at p4
        refine ⟨M4, r2, S4, (en3.upd u).mono e4, rh4, (Post.noXb (R := RD G) p4).imp fun v H5 h => ?_⟩
        obtain ⟨M5, y5, S5, e5, rh5, rv, p5⟩ := h
        have e25 := (e3.trans e4).trans e5
        obtain ⟨k1, k2, k3⟩ := keep e25
        refine ⟨acc, k1, by omega, hlt, M5, S5, acc ++ [v], ys ++ [y5], ((e2.trans e3).trans (e4.trans e5)).unk hp0, rh5.unk k1 k2 k3, upd_same, (rd2.mono e25).append (RelDs.nil.cons rv), k2, k3, by simp; omega, ?_⟩
        rw [Rs.bind_assoc] at p5
        simp only [Rs.bind_ok] at p5
        have p6 : Post G (RN G H) W M1 H1 s ((lcGo ok d dt de (wipeD r vs) (xs.drop (i + 1)) S5).bind fun zs S => .ok (ys ++ [y5] ++ zs) S) Q := by
          simpa only [List.append_assoc, List.singleton_append] using p5
        exact p6
  · have e : i = xs.length := by omega
    subst e
    refine .inl ⟨wstop (Nat.le_refl _), ?_⟩
    simp only [List.drop_length, lcGo, if_pos hok, Rs.bind_ok, List.append_nil] at pp
    exact pp M2 _ H2 e2 rh2 ⟨p0, acc, rfl, hacc, rd2, n1, n2, h0⟩
end Dn

set_option Elab.async false
set_option linter.all false
set_option maxRecDepth 100000
set_option maxHeartbeats 4000000
/-! The rules: statements. -/
namespace Dn
open PySem PySem.Spec PyProof.Rows L2
section
variable {G : Gx} {M0 : Mp} {H0 : Hp} {W : WX} {D : Ends} {s : L2.St} {H : Hp} {da db : DE} {ds : DA} {dt : DT} {i : Nat}
/-! ### names -/
theorem set_t (h : tS G M0 H0 W (sSet i da) D s H) : tE G W da s H fun x H1 => D.nx (s.set i (some x)) H1 := by
  obtain ⟨M, r, S, w, p⟩ := h
  refine ⟨M, r, S, w.env, w.heap, (PostS.toS (R := RD G) w p).imp fun y H1 h => ?_⟩
  obtain ⟨M1, v, S1, w1, e1, rv, p1⟩ := h
  split at p1
  · rename_i hi
    exact p1 M1 _ H1 (w1.upd (Upd.set w1.env.len hi rv)) Le.refl
  · exact p1.elim
/-- a slot gets a new list of its own -/
theorem Wst.setOwn {M M1 : Mp} {r : Rho} {S S1 : Store} {H1 : Hp} {xs : List Dn.D} {y : V} (w : Wst G M0 H0 M r S s H) (e1 : Ext M H M1 H1) (w1 : Wst G M0 H0 M1 r S1 s H1) (rn : RN G H M1 H1 xs y) (hi : i < r.length) : Wst G M0 H0 M1 (r.set i (.own xs)) S1 (s.set i (some y)) H1 := by
  obtain ⟨p, vs, rfl, h1, h2, h3, h4, h5⟩ := rn
  have hl := w1.env.len
  have apart : ∀ (j : Nat) (ys : List Dn.D) (a : Addr), r[j]? = some (.own ys) → s[j]? = some (some (.ref a)) → a ≠ p := fun j ys a q1 q2 z => by
    obtain ⟨v, k1, k2⟩ := w.env.sl j _ q1
    rw [q2] at k1; cases k1
    obtain ⟨b, zs, k3, k4, _⟩ := k2
    cases k3
    rw [z, h5] at k4; cases k4
  refine ⟨⟨by rw [List.length_set, List.length_set]; exact hl, fun j x q => ?_, fun j k xs' ys' a q1 q2 q3 q4 => ?_⟩, w1.heap, w1.ext, fun j xs' a q1 q2 => ?_⟩
  · by_cases e : j = i
    · subst e
      rw [List.getElem?_set_self hi] at q
      cases q
      exact ⟨_, List.getElem?_set_self (by omega), p, vs, rfl, h1, h2, h3, h4⟩
    · rw [List.getElem?_set_ne (Ne.symm e)] at q ⊢
      exact w1.env.sl j x q
  · by_cases e : j = i <;> by_cases e2 : k = i
    · rw [e, e2]
    · subst e
      rw [List.getElem?_set_self (by omega)] at q3
      cases q3
      rw [List.getElem?_set_ne (Ne.symm e2)] at q2 q4
      exact absurd rfl (apart k _ _ q2 q4)
    · subst e2
      rw [List.getElem?_set_self (by omega)] at q4
      cases q4
      rw [List.getElem?_set_ne (Ne.symm e)] at q1 q3
      exact absurd rfl (apart j _ _ q1 q3)
    · rw [List.getElem?_set_ne (Ne.symm e)] at q1 q3
      rw [List.getElem?_set_ne (Ne.symm e2)] at q2 q4
      exact w1.env.apt j k _ _ a q1 q2 q3 q4
  · by_cases e : j = i
    · subst e
      rw [List.getElem?_set_self (by omega)] at q2
      cases q2
      cases z : H0 p with
      | none => rfl
      | some o =>
        obtain ⟨o', z'⟩ := w.ext.there p o z
        rw [h5] at z'; cases z'
    · rw [List.getElem?_set_ne (Ne.symm e)] at q1 q2
      exact w1.own j _ a q1 q2
theorem own_t (h : tS G M0 H0 W (sSetOwn i ds) D s H) : tN G W ds s H fun x H1 => D.nx (s.set i (some x)) H1 := by
  obtain ⟨M, r, S, w, p⟩ := h
  refine ⟨M, r, S, w.env, w.heap, (PostS.toS (R := RN G H) w p).imp fun y H1 h => ?_⟩
  obtain ⟨M1, v, S1, w1, e1, rv, p1⟩ := h
  split at p1
  · rename_i hi
    exact p1 M1 _ H1 (Wst.setOwn w e1 w1 rv hi) Le.refl
  · exact p1.elim
end
section
variable {X : Cx} {M0 : Mp} {H0 : Hp} {W : WX} {a b e : Expr} {es : List Expr} {da db : DE} {ds : DA} {dt : DT} {d1 d2 : DS} {pos : Pos} {st : Stmt} {rest : List Stmt}
theorem ss_nil : SSs X M0 H0 W [] sNext := by
  refine pss_nil.dimp ?_
  rintro D s H ⟨M, r, S, w, p⟩
  exact p M s H w Le.refl
theorem ss_cons (h1 : SS X M0 H0 W st d1) (h2 : SSs X M0 H0 W rest d2) : SSs X M0 H0 W (st :: rest) (sSeq d1 d2) := by
  refine (pss_cons h1 h2).dimp ?_
  rintro D s H ⟨M, r, S, w, p⟩
  refine ⟨M, r, S, w, ?_⟩
  unfold sSeq at p
  cases q : d1 r S with
  | next r1 S1 =>
    rw [q] at p
    exact fun M1 s1 H1 w1 l1 => ⟨M1, r1, S1, w1, PostS.le p l1⟩
  | ret d r1 S1 => rw [q] at p; exact p
  | brk r1 S1 => rw [q] at p; exact p
  | cont r1 S1 => rw [q] at p; exact p
  | exc c fs r1 S1 => rw [q] at p; exact p
  | bad => rw [q] at p; exact p
theorem ss_one (h1 : SS X M0 H0 W st d1) : SSs X M0 H0 W [st] d1 := pss_one h1
theorem ss_pass : SS X M0 H0 W (.Pass pos) sNext := by
  refine ps_pass.dimp ?_
  rintro D s H ⟨M, r, S, w, p⟩
  exact p M s H w Le.refl
theorem ss_brk : SS X M0 H0 W (.Break pos) sBrk := by
  refine ps_break.dimp ?_
  rintro D s H ⟨M, r, S, w, p⟩
  exact p M s H w Le.refl
theorem ss_cnt : SS X M0 H0 W (.Continue pos) sCnt := by
  refine ps_continue.dimp ?_
  rintro D s H ⟨M, r, S, w, p⟩
  exact p M s H w Le.refl
theorem ss_bad : SS X M0 H0 W st sBad := by
  refine ps_never.dimp ?_
  rintro D s H ⟨M, r, S, w, p⟩
  exact p.elim
theorem ss_doc {x j pos pos'} : SS X M0 H0 W (.Expr (.Constant (.str x) j pos) pos') sNext := by
  refine ps_doc.dimp ?_
  rintro D s H ⟨M, r, S, w, p⟩
  exact p M s H w Le.refl
theorem ss_set {i : Nat} {x : Str} {pos' : Pos} (hN : X.N.Nodup) (hi : X.N[i]? = some x) (hx : Loc X.env.scope x) (he : SE X W e da) (hf : X.fn x = true ∨ X.env.scope.names.lookup x = some .local) (hs : swapsWith e (some (.Name x pos')) pos.line X.env = pure false := by rfl) :
    SS X M0 H0 W (.Assign [.Name x pos'] e pos) (sSet i da) := (ps_set hN hi hx he hs hf).dimp fun _ _ _ => set_t
theorem ss_own {i : Nat} {x : Str} {pos' : Pos} (hN : X.N.Nodup) (hi : X.N[i]? = some x) (hx : Loc X.env.scope x) (he : SN X W e ds) (hf : X.fn x = true ∨ X.env.scope.names.lookup x = some .local) (hs : swapsWith e (some (.Name x pos')) pos.line X.env = pure false := by rfl) :
    SS X M0 H0 W (.Assign [.Name x pos'] e pos) (sSetOwn i ds) := (ps_set hN hi hx he hs hf).dimp fun _ _ _ => own_t
/-- name = [.. for ..] on one line -/
theorem ss_lcO {i : Nat} {tl : TE} (h : PS X st (tAsg tl (gName i))) (k : ∀ s H Q, tN (gx X) W ds s H Q → tl s H Q) : SS X M0 H0 W st (sSetOwn i ds) := h.dimp fun _ _ _ q => k _ _ _ (own_t q)
theorem ss_lcF {i : Nat} {tl : TE} (h : PS X st (tAsg tl (gName i))) (k : ∀ s H Q, tN (gx X) W ds s H Q → tl s H Q) : SS X M0 H0 W st (sSet i (eFrz ds)) := h.dimp fun _ _ _ q => k _ _ _ (frz_t (set_t q))
theorem ss_lcN {i : Nat} {tl : TE} (h : PS X st (tAsg tl (gName i))) (k : ∀ s H Q, tN (gx X) W ds s H Q → tl s H Q) : SS X M0 H0 W st (sSet i (eNew ds)) := h.dimp fun _ _ _ q => k _ _ _ (new_t (set_t q))
/-- as a value -/
theorem sn_lc {tl : TE} (h : PE X e tl) (k : ∀ s H Q, tN (gx X) W ds s H Q → tl s H Q) : SN X W e ds := h.dimp k
theorem ss_asg {tg : Expr} {is : List Nat} {g : TG} {d : DG} (he : SE X W e da) (hg : PG X tg g) (k : GOk (gx X) is g d) (hs : swapsWithSole [tg] e pos.line X.env = pure false := by rfl) (hw : swappedStores [tg] e X.env = pure none := by rfl)
    (h1 : (assignEach [tg] X.env).map (·.2) = [assign tg X.env] := by rfl) : SS X M0 H0 W (.Assign [tg] e pos) (sAsg da d) := by
  refine (ps_asg he hg hs hw h1).dimp ?_
  rintro D s H ⟨M, r, S, w, p⟩
  refine ⟨M, r, S, w.env, w.heap, (PostS.toS (R := RD (gx X)) w p).imp fun y H1 h => ?_⟩
  obtain ⟨M1, v, S1, w1, e1, rv, p1⟩ := h
  cases q : d v r S1 with
  | none => rw [q] at p1; exact p1.elim
  | some r1 =>
    rw [q] at p1
    exact k M1 H1 r r1 s S1 v y D.nx w1.env.len w1.heap rv q fun s2 u => p1 M1 s2 H1 (w1.upd u) Le.refl
/-- a, b = x, y -/
theorem ss_par {i j : Nat} (h : PS X st (tPar i j (tCons (tE (gx X) W da) (tCons (tE (gx X) W db) tNil)))) (hij : i ≠ j) : SS X M0 H0 W st (sPar i j da db) := by
  refine h.dimp ?_
  rintro D s H ⟨M, r, S, w, p⟩
  refine ⟨M, r, S, w.env, w.heap, (PostS.toS (R := RD (gx X)) w p).imp fun y H1 h => ?_⟩
  obtain ⟨M1, v, S1, w1, e1, rv, p1⟩ := h
  refine ⟨M1, r, S1, w1.env, w1.heap, (PostS.toS (R := RD (gx X)) w1 p1).imp fun z H2 h => ?_⟩
  obtain ⟨M2, u, S2, w2, e2, ru, p2⟩ := h
  split at p2
  · rename_i hi
    refine ⟨y, z, rfl, p2 M2 _ H2 ?_ Le.refl⟩
    have w3 := w2.upd (Upd.set w2.env.len hi.1 (rv.mono e2))
    exact w3.upd (Upd.set w3.env.len (by rw [List.length_set]; exact hi.2) ru)
  · exact p2.elim
theorem ss_drop (he : SE X W e da) (hs : swapsWith e none pos.line X.env = pure false := by rfl) : SS X M0 H0 W (.Expr e pos) (sDrop da) := by
  refine (ps_expr he hs).dimp ?_
  rintro D s H ⟨M, r, S, w, p⟩
  refine ⟨M, r, S, w.env, w.heap, (PostS.toS (R := RD (gx X)) w p).imp fun y H1 h => ?_⟩
  obtain ⟨M1, v, S1, w1, e1, rv, p1⟩ := h
  exact p1 M1 s H1 w1 Le.refl
theorem ss_ret (he : SE X W e da) : SS X M0 H0 W (.Return (some e) pos) (sRet da) := by
  refine (ps_ret he).dimp ?_
  rintro D s H ⟨M, r, S, w, p⟩
  refine ⟨M, r, S, w.env, w.heap, (PostS.toS (R := RD (gx X)) w p).imp fun y H1 h => ?_⟩
  obtain ⟨M1, v, S1, w1, e1, rv, p1⟩ := h
  exact p1 M1 y s H1 w1 Le.refl rv
theorem ss_retN : SS X M0 H0 W (.Return none pos) sRetN := by
  refine ps_retN.dimp ?_
  rintro D s H ⟨M, r, S, w, p⟩
  exact p M .non s H w Le.refl rfl
/-- a list of its own changes no more -/
theorem Wst.frz {G : Gx} {M : Mp} {r : Rho} {S : Store} {s : L2.St} {H : Hp} {i : Nat} {xs : List D} (w : Wst G M0 H0 M r S s H) (q : r[i]? = some (.own xs)) : ∃ (M2 : Mp) (p : Addr), s[i]? = some (some (.ref p)) ∧ Le M M2 ∧ RelD G M2 (.lst xs) (.ref p) ∧
    (∀ z : Sl, (z = .un ∨ z = .val (.lst xs)) → Wst G M0 H0 M2 (r.set i z) S s H) := by
  obtain ⟨v, e1, p, vs, e2, e3, e4, e5, e6⟩ := w.env.sl i _ q
  subst e2
  have hi : i < r.length := (List.getElem?_eq_some_iff.mp q).1
  have h0 : H0 p = none := w.own i xs p q e1
  obtain ⟨M2, x1, x2, x3, le, hloc, hlst⟩ := frz_new (H := H0) (M := M0) w.ext w.heap e3 e4 e5 e6 h0
  refine ⟨M2, p, e1, le, x3, fun z hz => ?_⟩
  have back : ∀ (j : Nat) (ys : List D), (r.set i z)[j]? = some (Sl.own ys) → j ≠ i ∧ r[j]? = some (Sl.own ys) := fun j ys k => by
    by_cases e : j = i
    · subst e
      rw [List.getElem?_set_self hi] at k
      rcases hz with z1 | z1 <;> (rw [z1] at k; cases k)
    · rw [List.getElem?_set_ne (Ne.symm e)] at k
      exact ⟨e, k⟩
  refine ⟨⟨by rw [List.length_set]; exact w.env.len, fun j x k => ?_, fun j k xs' ys' a q1 q2 q3 q4 => ?_⟩, x2, x1, fun j ys a q1 q2 => w.own j ys a (back j ys q1).2 q2⟩
  · by_cases e : j = i
    · subst e
      rw [List.getElem?_set_self hi] at k
      rcases hz with z1 | z1
      · rw [z1] at k; cases k
        exact ⟨_, e1, trivial⟩
      · rw [z1] at k; cases k
        exact ⟨_, e1, _, rfl, x3⟩
    · rw [List.getElem?_set_ne (Ne.symm e)] at k
      obtain ⟨v, k1, k2⟩ := w.env.sl j x k
      refine ⟨v, k1, ?_⟩
      cases x with
      | un => trivial
      | val d =>
        obtain ⟨u, y1, y2⟩ := k2
        exact ⟨u, y1, RelD.le le y2⟩
      | own ys =>
        obtain ⟨a, ws, y1, y2, y3, y4, y5⟩ := k2
        subst y1
        have ne : a ≠ p := fun z1 => by
          subst z1
          exact e (w.env.apt j i ys xs a k q k1 e1)
        exact ⟨a, ws, rfl, y2, RelDs.le le y3, by rw [hloc]; exact y4, by rw [hlst a ne]; exact y5⟩
      | ownd _ => exact k2
  · exact w.env.apt j k xs' ys' a (back j _ q1).2 (back k _ q2).2 q3 q4
theorem ss_retOwn {i : Nat} {x : Str} {p2 : Pos} (hN : X.N[i]? = some x) (hv : Vis X.env.scope x) (hd : (x == ("__debug__" : Str)) = false := by decide) (hcd : (x == ("__classdict__" : Str)) = false := by decide) : SS X M0 H0 W (.Return (some (.Name x p2)) pos) (sRetOwn i) := by
  refine (ps_ret (pe_var (i := i) hN hv hd hcd)).dimp ?_
  rintro D s H ⟨M, r, S, w, p⟩
  unfold sRetOwn at p
  cases q : r[i]? with
  | none => rw [q] at p; exact p.elim
  | some z =>
    rw [q] at p
    cases z with
    | own xs =>
      obtain ⟨M2, a, h1, le, rd, k⟩ := w.frz q
      exact ⟨.ref a, h1, p M2 _ s H (k _ (.inl rfl)) le rd⟩
    | un => exact p.elim
    | val _ => exact p.elim
    | ownd _ => exact p.elim
/-- a list that changes no more, ahead of a statement -/
theorem ss_frz {i : Nat} (h : SS X M0 H0 W st d1) : SS X M0 H0 W st (sSeq (sFrz i) d1) := by
  refine h.dimp ?_
  rintro D s H ⟨M, r, S, w, p⟩
  unfold sSeq sFrz at p
  cases q : r[i]? with
  | none => rw [q] at p; exact p.elim
  | some z =>
    rw [q] at p
    cases z with
    | own xs =>
      obtain ⟨M2, a, h1, le, rd, k⟩ := w.frz q
      exact ⟨M2, _, S, k _ (.inr rfl), PostS.le p le⟩
    | un => exact p.elim
    | val _ => exact p.elim
    | ownd _ => exact p.elim
theorem ss_if {c : Expr} {sa sb : List Stmt} (hc : ST X W c dt) (ha : SSs X M0 H0 W sa d1) (hb : SSs X M0 H0 W sb d2) : SS X M0 H0 W (.If c sa sb pos) (sIf dt d1 d2) := by
  refine (ps_if hc ha hb).dimp ?_
  rintro D s H ⟨M, r, S, w, p⟩
  refine ⟨M, r, S, w.env, w.heap, (PostS.toS (R := RB) w p).imp fun y H1 h => ?_⟩
  obtain ⟨M1, v, S1, w1, e1, rv, p1⟩ := h
  obtain rfl : v = y := rv
  cases v with
  | true => exact ⟨M1, r, S1, w1, p1⟩
  | false => exact ⟨M1, r, S1, w1, p1⟩
/-! ### loops -/
theorem ss_for {tg iter : Expr} {body : List Stmt} {di : DI} {g : TG} {d : DG} {is : List Nat} {db' : DS} (hp : PassesOwn (model X.prog X.w) X.A X.env X.xe) (hc : X.calm = true) (hi : SI X W tg iter di) (hg : PG X tg g) (k : GOk (gx X) is g d) (hb : SSs X M0 H0 W body db')
    (hs : ∀ x, foldedSetIterable iter X.env x = pure x := by intro _; rfl) : SS X M0 H0 W (.For tg iter body [] pos) (sFor di d db') := by
  refine (ps_for hp hc hi hg hb hs).dimp ?_
  rintro D s H ⟨M, r, S, w, p⟩
  refine ⟨M, r, S, w.env, w.heap, (PostS.toS (R := RW (gx X)) w p).imp fun J H1 h => ?_⟩
  obtain ⟨M1, ⟨xs, ok⟩, S1, w1, e1, ⟨wk, hz⟩, p1⟩ := h
  dsimp only at hz p1
  refine ⟨fun i m s2 H2 => m = xs.length - i ∧ i ≤ xs.length ∧ ∃ M2 r2 S2, Wst (gx X) M0 H0 M2 r2 S2 s2 H2 ∧ Le M1 M2 ∧ PostS (gx X) M0 H0 W M2 (forGo ok d db' (xs.drop i) r2 S2) D, ⟨xs.length, by simp, Nat.zero_le _, M1, r, S1, w1, Le.refl, by rw [List.drop_zero]; exact p1⟩, ?_⟩
  rintro i m s2 H2 ⟨rfl, hi, M2, r2, S2, w2, l2, pp⟩
  have hok : ok S2 := by
    cases q : xs.drop i with
    | nil =>
      rw [q] at pp
      unfold forGo at pp
      split at pp
      · assumption
      · exact pp.elim
    | cons _ _ =>
      rw [q] at pp
      unfold forGo at pp
      split at pp
      · assumption
      · exact pp.elim
  obtain ⟨wgo, wstop⟩ := wk i M2 S2 H2 l2 w2.heap hok
  by_cases hlt : i < xs.length
  · refine .inr ⟨(wgo hlt).1, ?_⟩
    refine ⟨fun s' H' => i + 1 ≤ xs.length ∧ ∃ M2 r2 S2, Wst (gx X) M0 H0 M2 r2 S2 s' H' ∧ Le M1 M2 ∧ PostS (gx X) M0 H0 W M2 (forGo ok d db' (xs.drop (i + 1)) r2 S2) D, fun s' H' h => ⟨xs.length - (i + 1), by omega, rfl, h⟩, fun x H3 y => ?_⟩
    obtain ⟨M3, dx, e3, rh3, hdx, rd3⟩ := (wgo hlt).2 x H3 y
    have hdrop : xs.drop i = dx :: xs.drop (i + 1) := by
      have e : xs[i] = dx := by
        have hdx : xs[i]? = some dx := hdx
        rw [List.getElem?_eq_getElem hlt] at hdx
        exact Option.some.inj hdx
      rw [List.drop_eq_getElem_cons hlt, e]
    rw [hdrop] at pp
    unfold forGo at pp
    rw [if_pos hok] at pp
    cases hgd : d dx r2 S2 with
    | none => rw [hgd] at pp; exact pp.elim
    | some r3 =>
      rw [hgd] at pp
      dsimp only at pp
      have w3 := w2.mono e3 rh3
      refine k M3 H3 r2 r3 s2 S2 dx x _ w3.env.len rh3 rd3 hgd fun s4 u => ?_
      refine ⟨M3, r3, S2, w3.upd u, ?_⟩
      have l3 := l2.trans e3.le
      cases q : db' r3 S2 with
      | next r4 S4 =>
        rw [q] at pp
        exact fun M4 s5 H5 w5 l5 => ⟨hlt, M4, r4, S4, w5, l3.trans l5, PostS.le pp (e3.le.trans l5)⟩
      | cont r4 S4 =>
        rw [q] at pp
        exact fun M4 s5 H5 w5 l5 => ⟨hlt, M4, r4, S4, w5, l3.trans l5, PostS.le pp (e3.le.trans l5)⟩
      | brk r4 S4 =>
        rw [q] at pp
        exact fun M4 s5 H5 w5 l5 => pp M4 s5 H5 w5 (e3.le.trans l5)
      | ret v r4 S4 =>
        rw [q] at pp
        exact fun M4 z s5 H5 w5 l5 rz => pp M4 z s5 H5 w5 (e3.le.trans l5) rz
      | exc c fs r4 S4 =>
        rw [q] at pp
        exact fun M4 s5 H5 C dx w5 l5 => pp M4 s5 H5 C dx w5 (e3.le.trans l5)
      | bad => rw [q] at pp; exact pp.elim
  · have e : i = xs.length := by omega
    subst e
    refine .inl ⟨wstop (Nat.le_refl _), ?_⟩
    simp only [List.drop_length, forGo, if_pos hok] at pp
    exact pp M2 s2 H2 w2 Le.refl
theorem ss_while {c : Expr} {body : List Stmt} {n : Nat} {db' : DS} (hp : PassesOwn (model X.prog X.w) X.A X.env X.xe) (hc : ST X W c dt) (hb : SSs X M0 H0 W body db') : SS X M0 H0 W (.While c body [] pos) (sWhile n dt db') := by
  refine (ps_while hp hc hb).dimp ?_
  rintro D s H ⟨M, r, S, w, p⟩
  refine ⟨fun m s2 H2 => ∃ M2 r2 S2, Wst (gx X) M0 H0 M2 r2 S2 s2 H2 ∧ Le M M2 ∧ PostS (gx X) M0 H0 W M2 (whileGo dt db' m r2 S2) D, ⟨n, M, r, S, w, Le.refl, p⟩, ?_⟩
  rintro m s2 H2 ⟨M2, r2, S2, w2, l2, pp⟩
  cases m with
  | zero => exact pp.elim
  | succ m =>
    unfold whileGo at pp
    refine ⟨M2, r2, S2, w2.env, w2.heap, (PostS.toS (R := RB) w2 pp).imp fun y H3 h => ?_⟩
    obtain ⟨M3, v, S3, w3, e3, rv, p3⟩ := h
    obtain rfl : v = y := rv
    cases v with
    | false => exact p3 M3 s2 H3 w3 Le.refl
    | true =>
      simp only [if_true] at p3 ⊢
      have l3 := l2.trans e3.le
      refine ⟨fun s' H' => ∃ M2 r2 S2, Wst (gx X) M0 H0 M2 r2 S2 s' H' ∧ Le M M2 ∧ PostS (gx X) M0 H0 W M2 (whileGo dt db' m r2 S2) D, fun s' H' h => ⟨m, Nat.lt_succ_self m, h⟩, M3, r2, S3, w3, ?_⟩
      cases q : db' r2 S3 with
      | next r4 S4 =>
        rw [q] at p3
        exact fun M4 s5 H5 w5 l5 => ⟨M4, r4, S4, w5, l3.trans l5, PostS.le p3 l5⟩
      | cont r4 S4 =>
        rw [q] at p3
        exact fun M4 s5 H5 w5 l5 => ⟨M4, r4, S4, w5, l3.trans l5, PostS.le p3 l5⟩
      | brk r4 S4 =>
        rw [q] at p3
        exact fun M4 s5 H5 w5 l5 => p3 M4 s5 H5 w5 l5
      | ret v r4 S4 =>
        rw [q] at p3
        exact fun M4 z s5 H5 w5 l5 rz => p3 M4 z s5 H5 w5 l5 rz
      | exc c fs r4 S4 =>
        rw [q] at p3
        exact fun M4 s5 H5 C dx w5 l5 => p3 M4 s5 H5 C dx w5 l5
      | bad => rw [q] at p3; exact p3.elim
end
end Dn

set_option Elab.async false
set_option linter.all false
set_option maxRecDepth 100000
set_option maxHeartbeats 4000000
/-! The rules: changing objects; defs. -/
namespace Dn
open PySem PySem.Spec PyProof.Rows L2
theorem RelFs.le {G : Gx} {M M' : Mp} (e : Le M M') : ∀ {fs : List (Str × D)} {vs : List (Str × V)}, RelFs G M fs vs → RelFs G M' fs vs
  | [], _, h => h
  | (f, d) :: fs, _, h => by
    obtain ⟨v, r, rfl, h1, h2⟩ := h
    exact ⟨v, r, rfl, RelD.le e h1, RelFs.le e h2⟩
theorem ObjR.le {G : Gx} {M M' : Mp} (e : Le M M') {o : SO} {x : Option HO} (h : ObjR G M o x) : ObjR G M' o x := by
  cases o with
  | lst ds => obtain ⟨vs, h1, h2⟩ := h; exact ⟨vs, h1, RelDs.le e h2⟩
  | ins c fs => obtain ⟨C, dx, vfs, h1, h2, h3⟩ := h; exact ⟨C, dx, vfs, h1, h2, RelFs.le e h3⟩
  | dct _ => exact h
theorem ObjR.some {G : Gx} {M : Mp} {o : SO} {x : Option HO} (h : ObjR G M o x) : ∃ u, x = .some u ∧ ∀ vs, u ≠ .tup vs := by
  cases o with
  | lst ds => obtain ⟨vs, h1, h2⟩ := h; exact ⟨_, h1, fun _ z => by cases z⟩
  | ins c fs => obtain ⟨C, dx, vfs, h1, h2, h3⟩ := h; exact ⟨_, h1, fun _ z => by cases z⟩
  | dct _ => exact h.elim
/-- a numbered object changes -/
theorem RelH.put {G : Gx} {M : Mp} {S : Store} {H : Hp} {l : Nat} {a : Addr} {o o' : SO} {ho : HO} (rh : RelH G M S H) (hl : M.loc l = some a) (hs : S[l]? = some o) (h' : ObjR G M o' (some ho)) : RelH G M (S.set l o') (upd H a ho) ∧ Ext M H M (upd H a ho) := by
  obtain ⟨a', e1, e2⟩ := rh.obj l o hs
  rw [hl] at e1; cases e1
  obtain ⟨u, e3, e4⟩ := e2.some
  have hlt : l < S.length := (List.getElem?_eq_some_iff.mp hs).1
  refine ⟨⟨fun k x q => ?_, fun k b q => by rw [List.length_set]; exact rh.dom k b q, rh.inj, fun b vs q => ?_, fun b vs q => ?_, rh.apt⟩, fun _ _ h => h, fun _ _ h => h, fun _ _ h => h, fun _ _ h => .inl h, fun _ _ h => .inl h, fun b x q n => ?_, fun b x q => ?_⟩
  · by_cases e : k = l
    · subst e
      rw [List.getElem?_set_self hlt] at q
      cases q
      exact ⟨a, hl, by rw [upd_same]; exact h'⟩
    · rw [List.getElem?_set_ne (Ne.symm e)] at q
      obtain ⟨b, x1, x2⟩ := rh.obj k x q
      refine ⟨b, x1, ?_⟩
      rw [upd_ne (fun z => e (rh.inj k l b x1 (by rw [z]; exact hl)))]
      exact x2
  · have := rh.tup b vs q
    rw [upd_ne (fun z => by rw [z, e3] at this; cases this; exact e4 vs rfl)]
    exact this
  · have ne : b ≠ a := fun z => rh.apt b vs l q (by rw [z]; exact hl)
    rcases rh.lst b vs q with z | ⟨y, z⟩
    · exact .inl (by rw [upd_ne ne]; exact z)
    · exact .inr ⟨y, by rw [upd_ne ne]; exact z⟩
  · rw [upd_ne (fun z => n l (by rw [z]; exact hl))]; exact q
  · by_cases e : b = a
    · subst e
      exact ⟨ho, upd_same⟩
    · exact ⟨x, by rw [upd_ne e]; exact q⟩
/-- the list of a number -/
theorem RelH.lstAt {G : Gx} {M : Mp} {S : Store} {H : Hp} {l : Nat} {a : Addr} {xs : List D} (rh : RelH G M S H) (hl : M.loc l = some a) (hs : S[l]? = some (.lst xs)) : ∃ vs, H a = some (.lst vs) ∧ RelDs G M xs vs := by
  obtain ⟨b, e1, vs, e2, e3⟩ := rh.obj l _ hs
  rw [hl] at e1; cases e1
  exact ⟨vs, e2, e3⟩
section
variable {X : Cx} {M0 : Mp} {H0 : Hp} {W : WX} {a b c o k e : Expr} {es : List Expr} {da db dc dk : DE} {ds : DA} {dl : DL} {dt : DT} {d1 d2 : DS} {pos : Pos} {st : Stmt}
/-! ### methods of lists -/
theorem se_appR (h : PE X e (tBM X.K "list" rAppend (tE (gx X) W da) (tCons (tE (gx X) W db) tNil))) : SE X W e (eAppR da db) := by
  refine h.dimp ?_
  rintro s H Q ⟨M, r, S, en, rh, p⟩
  refine ⟨M, r, S, en, rh, (Post.bind (R := RD (gx X)) p).imp fun v H1 h => ?_⟩
  obtain ⟨M1, x, S1, e1, rh1, rd1, p1⟩ := h
  cases x with
  | ref l =>
    obtain ⟨pa, rfl, h1⟩ := rd1
    dsimp only at p1
    split at p1
    · rename_i xs0 q0
      obtain ⟨vs0, z1, z2⟩ := rh1.lstAt h1 q0
      refine ⟨.inl ⟨rfl, vs0, .inl (.inl z1)⟩, M1, r, S1, en.mono e1, rh1, (Post.bind (R := RD (gx X)) p1).imp fun w H2 h => ?_⟩
      obtain ⟨M2, y, S2, e2, rh2, rd2, p2⟩ := h
      have h2 := e2.loc l pa h1
      split at p2
      · rename_i xs q
        obtain ⟨vs, z3, z4⟩ := rh2.lstAt h2 q
        split at p2
        · rename_i hz
          obtain ⟨x1, x2⟩ := rh2.put (o' := .lst (xs ++ [y])) (ho := .lst (vs ++ [w])) h2 q ⟨_, rfl, z4.append (RelDs.nil.cons rd2)⟩
          exact ⟨pa, vs, w, rfl, rfl, z3, by rw [← z4.len]; exact hz, p2 M2 _ _ x2 x1 rfl⟩
        · exact p2.elim
      · exact p2.elim
    · exact p1.elim
  | _ => exact p1.elim
theorem eraseIdx_rel {G : Gx} {M : Mp} : ∀ {ds : List D} {vs : List V} (i : Nat), RelDs G M ds vs → RelDs G M (ds.eraseIdx i) (vs.eraseIdx i)
  | [], _, _, h => by cases (show _ = [] from h); exact RelDs.nil
  | d :: ds, _, 0, h => by
    obtain ⟨v, r, rfl, h1, h2⟩ := h
    exact h2
  | d :: ds, _, i + 1, h => by
    obtain ⟨v, r, rfl, h1, h2⟩ := h
    exact ⟨v, _, rfl, h1, eraseIdx_rel i h2⟩
theorem place_seq {n : Nat} {i : Int} {j : Nat} (h : place n i = some j) (hn : n ≤ sizeLine) : -(2 ^ 63) ≤ i ∧ i < 2 ^ 63 ∧ seqIndex? i n = some j ∧ j < n := by
  rw [place_eq] at h
  obtain ⟨h1, h2, h3, h4⟩ := ixN_seq h
  have := line63
  exact ⟨by omega, by omega, h1, h2⟩
def rPopAtB : V → List V → Hp → VK → Prop := fun x vs H Q => ∃ l xs i k y, x = .ref l ∧ vs = [.int i] ∧ H l = some (.lst xs) ∧ place xs.length i = some k ∧ xs[k]? = some y ∧ Q y (upd H l (.lst (xs.eraseIdx k)))
theorem mt_popAtB : MtR X "list.pop" rPopAtB := by
  intro pins s z H x vs v us Q I rx rv h
  obtain ⟨l, xs, i, k, y, rfl, rfl, hH, hk, hy, q⟩ := h
  obtain ⟨hz, _⟩ := I.lstM hH
  obtain ⟨h1, h2, h3, _⟩ := place_seq hk hz
  exact mt_popAt pins s z H _ _ v us Q I rx rv ⟨l, xs, i, k, y, rfl, rfl, hH, h1, h2, h3, hy, q⟩
theorem se_popR (h : PE X e (tBM X.K "list" rPopAtB (tE (gx X) W da) (tCons (tE (gx X) W db) tNil))) : SE X W e (ePopR da db) := by
  refine h.dimp ?_
  rintro s H Q ⟨M, r, S, en, rh, p⟩
  refine ⟨M, r, S, en, rh, (Post.bind (R := RD (gx X)) p).imp fun v H1 h => ?_⟩
  obtain ⟨M1, x, S1, e1, rh1, rd1, p1⟩ := h
  cases x with
  | ref l =>
    obtain ⟨pa, rfl, h1⟩ := rd1
    dsimp only at p1
    split at p1
    · rename_i xs0 q0
      obtain ⟨vs0, z1, z2⟩ := rh1.lstAt h1 q0
      refine ⟨.inl ⟨rfl, vs0, .inl (.inl z1)⟩, M1, r, S1, en.mono e1, rh1, (Post.bind (R := RD (gx X)) p1).imp fun w H2 h => ?_⟩
      obtain ⟨M2, y, S2, e2, rh2, rd2, p2⟩ := h
      have h2 := e2.loc l pa h1
      split at p2
      · rename_i j xs q
        cases (show _ = _ from rd2)
        obtain ⟨vs, z3, z4⟩ := rh2.lstAt h2 q
        split at p2
        · rename_i m hm
          split at p2
          · rename_i y hy
            obtain ⟨v, y1, y2⟩ := z4.get hy
            obtain ⟨x1, x2⟩ := rh2.put (o' := .lst (xs.eraseIdx m)) (ho := .lst (vs.eraseIdx m)) h2 q ⟨_, rfl, eraseIdx_rel m z4⟩
            exact ⟨pa, vs, j, m, v, rfl, rfl, z3, by rw [← z4.len]; exact hm, y1, p2 M2 _ _ x2 x1 y2⟩
          · exact p2.elim
        · exact p2.elim
      · exact p2.elim
    · exact p1.elim
  | _ => exact p1.elim
theorem dropLast_rel {G : Gx} {M : Mp} {ds : List D} {vs : List V} (h : RelDs G M ds vs) : RelDs G M ds.dropLast vs.dropLast := by
  rw [List.dropLast_eq_take, List.dropLast_eq_take, h.len]
  exact h.take _
theorem se_popR0 (h : PE X e (tBM0 X.K "list" rPop (tE (gx X) W da))) : SE X W e (ePopR0 da) := by
  refine h.dimp ?_
  rintro s H Q ⟨M, r, S, en, rh, p⟩
  refine ⟨M, r, S, en, rh, (Post.bind (R := RD (gx X)) p).imp fun v H1 h => ?_⟩
  obtain ⟨M1, x, S1, e1, rh1, rd1, p1⟩ := h
  cases x with
  | ref l =>
    obtain ⟨pa, rfl, h1⟩ := rd1
    dsimp only at p1
    split at p1
    · rename_i xs q
      obtain ⟨vs, z3, z4⟩ := rh1.lstAt h1 q
      split at p1
      · rename_i y hy
        obtain ⟨v, y1, y2⟩ := z4.get hy
        obtain ⟨x1, x2⟩ := rh1.put (o' := .lst xs.dropLast) (ho := .lst vs.dropLast) h1 q ⟨_, rfl, dropLast_rel z4⟩
        exact ⟨.inl ⟨rfl, vs, .inl (.inl z3)⟩, pa, vs, v, rfl, rfl, z3, by rw [← z4.len]; exact y1, p1 M1 _ _ x2 x1 y2⟩
      · exact p1.elim
    · exact p1.elim
  | _ => exact p1.elim
/-! ### new lists from others -/
theorem sn_lstOf (hc : PE X e (tCB (fun xs H Q => ∃ p ys, xs = [.ref p] ∧ (SqL X.K H p ys ∨ SqT X.K H p ys) ∧ ∀ l, H l = none → Q (.ref l) (upd H l (.lst ys))) (tCons (tL (gx X) W dl) tNil))) : SN X W e (nLstOf dl) := by
  refine hc.dimp ?_
  rintro s H Q ⟨M, r, S, en, rh, p⟩
  refine ⟨M, r, S, en, rh, (Post.bind (R := RSrc (gx X) s) p).imp fun v H1 h => ?_⟩
  obtain ⟨M1, c, S1, e1, rh1, rd1, p1⟩ := h
  cases q : c.get r S1 with
  | none => rw [q] at p1; exact p1.elim
  | some xs =>
    rw [q] at p1
    obtain ⟨pa, vs, rfl, h1, h2⟩ := src_ok rh1 (en.mono e1) rd1 q
    refine ⟨pa, vs, rfl, sq_or h1, fun l hl => ?_⟩
    refine p1 M1 _ _ (Ext.other hl) (rh1.other hl) ⟨l, vs, rfl, upd_same, h2, rh1.noloc hl, rh1.nolst hl, ?_⟩
    cases z : H l with
    | none => rfl
    | some o =>
      obtain ⟨o', z'⟩ := e1.there l o z
      rw [hl] at z'; cases z'
theorem sn_sorted (hc : PE X e (tCB (rSortD (gx X)) (tCons (tL (gx X) W dl) tNil))) : SN X W e (nSorted dl) := by
  refine hc.dimp ?_
  rintro s H Q ⟨M, r, S, en, rh, p⟩
  refine ⟨M, r, S, en, rh, (Post.bind (R := RSrc (gx X) s) p).imp fun v H1 h => ?_⟩
  obtain ⟨M1, c, S1, e1, rh1, rd1, p1⟩ := h
  cases q : c.get r S1 with
  | none => rw [q] at p1; exact p1.elim
  | some xs =>
    rw [q] at p1
    obtain ⟨pa, vs, rfl, h1, h2⟩ := src_ok rh1 (en.mono e1) rd1 q
    simp only [Rs.ofO_some, Rs.bind_ok] at p1
    split at p1
    · rename_i hc
      simp only [Bool.and_eq_true, Bool.not_eq_true'] at hc
      rw [hc.1] at h1
      refine ⟨M1, S1, pa, vs, xs, rfl, rh1, h1, h2, hc.2, fun l ws hl hw => ?_⟩
      refine p1 M1 _ _ (Ext.other hl) (rh1.other hl) ⟨l, ws, rfl, upd_same, hw, rh1.noloc hl, rh1.nolst hl, ?_⟩
      cases z : H l with
      | none => rfl
      | some o =>
        obtain ⟨o', z'⟩ := e1.there l o z
        rw [hl] at z'; cases z'
    · exact p1.elim
/-! ### stores -/
theorem ss_putR (h : PS X st (tAsg (tE (gx X) W da) (gSub (tE (gx X) W db) (tE (gx X) W dk) rSetL))) : SS X M0 H0 W st (sPutR db dk da) := by
  refine h.dimp ?_
  rintro D s H ⟨M, r, S, w, p⟩
  refine ⟨M, r, S, w.env, w.heap, (PostS.toS (R := RD (gx X)) w p).imp fun y H1 h => ?_⟩
  obtain ⟨M1, v, S1, w1, e1, rv, p1⟩ := h
  refine ⟨M1, r, S1, w1.env, w1.heap, (PostS.toS (R := RD (gx X)) w1 p1).imp fun z H2 h => ?_⟩
  obtain ⟨M2, u, S2, w2, e2, ru, p2⟩ := h
  refine ⟨M2, r, S2, w2.env, w2.heap, (PostS.toS (R := RD (gx X)) w2 p2).imp fun z2 H3 h => ?_⟩
  obtain ⟨M3, n, S3, w3, e3, rn, p3⟩ := h
  split at p3
  · rename_i l j
    obtain ⟨pa, rfl, h1⟩ := ru
    cases (show _ = _ from rn)
    have h3 := e3.loc l pa h1
    split at p3
    · rename_i xs q
      obtain ⟨vs, z3, z4⟩ := w3.heap.lstAt h3 q
      split at p3
      · rename_i m hm
        obtain ⟨x1, x2⟩ := w3.heap.put (o' := .lst (xs.set m v)) (ho := .lst (vs.set m y)) h3 q ⟨_, rfl, z4.set m ((rv.mono e2).mono e3)⟩
        exact ⟨pa, vs, j, m, rfl, rfl, z3, by rw [← z4.len]; exact hm, p3 M3 s _ (w3.mono x2 x1) Le.refl⟩
      · exact p3.elim
    · exact p3.elim
  · exact p3.elim
theorem ss_fld {f : Str} {cs : List Str} (hf : ∀ c ∈ cs, FldOk (gx X) c f) (h : PS X st (sFld X.K (tE (gx X) W db) (tE (gx X) W da) f)) : SS X M0 H0 W st (sFldD cs f db da) := by
  refine h.dimp ?_
  rintro D s H ⟨M, r, S, w, p⟩
  refine ⟨M, r, S, w.env, w.heap, (PostS.toS (R := RD (gx X)) w p).imp fun y H1 h => ?_⟩
  obtain ⟨M1, v, S1, w1, e1, rv, p1⟩ := h
  refine ⟨M1, r, S1, w1.env, w1.heap, (PostS.toS (R := RD (gx X)) w1 p1).imp fun z H2 h => ?_⟩
  obtain ⟨M2, u, S2, w2, e2, ru, p2⟩ := h
  cases u with
  | ref l =>
    obtain ⟨pa, rfl, h1⟩ := ru
    dsimp only at p2
    split at p2
    · rename_i c fs q
      split at p2
      · rename_i hc
        obtain ⟨a2, x1, C, dx, vfs, x2, x3, x4⟩ := w2.heap.obj l _ q
        rw [h1] at x1; cases x1
        obtain ⟨k1, k2⟩ := hf c hc.1 C x3
        obtain ⟨y1, y2⟩ := w2.heap.put (o' := .ins c (putFD f v fs)) (ho := .ins C dx (putF f y vfs)) h1 q ⟨C, dx, _, rfl, x3, x4.put (rv.mono e2)⟩
        exact ⟨pa, C, dx, vfs, rfl, x2, k1, k2, by rw [← x4.len]; exact hc.2, p2 M2 s _ (w2.mono y2 y1) Le.refl⟩
      · exact p2.elim
    · exact p2.elim
  | _ => exact p2.elim
/-- name += e, name -= e: of whole numbers -/
theorem ss_aug {i : Nat} {f : Int → Int → Int} (h : PS X st (tAug i (tE (gx X) W da) (ipI f))) : SS X M0 H0 W st (sAugI i f da) := by
  refine h.dimp ?_
  rintro D s H ⟨M, r, S, w, p⟩
  unfold sAugI at p
  cases q : r[i]? with
  | none => rw [q] at p; exact p.elim
  | some z =>
    rw [q] at p
    have hi : i < r.length := (List.getElem?_eq_some_iff.mp q).1
    cases z with
    | val d =>
      cases d with
      | int x =>
        obtain ⟨v, k1, u, k2, k3⟩ := w.env.sl i _ q
        subst k2
        cases (show _ = _ from k3)
        refine ⟨_, k1, M, r, S, w.env, w.heap, (PostS.toS (R := RD (gx X)) w p).imp fun y H1 h => ?_⟩
        obtain ⟨M1, v, S1, w1, e1, rv, p1⟩ := h
        cases v with
        | int j =>
          cases (show _ = _ from rv)
          exact ⟨x, j, rfl, rfl, p1 M1 _ H1 (w1.upd (Upd.set w1.env.len hi (d := .int (f x j)) rfl)) Le.refl⟩
        | _ => exact p1.elim
      | _ => exact p.elim
    | un => exact p.elim
    | own _ => exact p.elim
    | ownd _ => exact p.elim
end
end Dn

set_option Elab.async false
set_option linter.all false
set_option maxRecDepth 100000
set_option maxHeartbeats 4000000
/-! The rules: new instances, defs, the law's entry. -/
namespace Dn
open PySem PySem.Spec PyProof.Rows L2
/-- a new object that no one knew gets the next number -/
theorem loc_any {G : Gx} {M : Mp} {S : Store} {H : Hp} {p : Addr} {o : SO} {ho : HO} (rh : RelH G M S H) (hp : H p = none) (h : ObjR G M o (some ho)) :
    ∃ M', Ext M H M' (upd H p ho) ∧ RelH G M' (S ++ [o]) (upd H p ho) ∧ RelD G M' (.ref S.length) (.ref p) := by
  have nl := rh.nolst hp
  have no := rh.noloc hp
  have ne : ∀ b o, H b = some o → b ≠ p := fun b o h q => by rw [q, hp] at h; cases h
  have nS : ∀ l x, M.loc l = some x → l ≠ S.length := fun l x h q => by have := rh.dom l x h; omega
  have ex : Ext M H ⟨fun l => if l = S.length then some p else M.loc l, M.tup, M.lst⟩ (upd H p ho) := by
    refine ⟨fun l x h => ?_, fun _ _ h => h, fun _ _ h => h, fun l x h => ?_, fun _ _ h => .inl h, fun a o h _ => ?_, fun a o h => ⟨o, ?_⟩⟩
    · show (if l = S.length then some p else M.loc l) = some x
      rw [if_neg (nS l x h)]; exact h
    · have h' : (if l = S.length then some p else M.loc l) = some x := h
      by_cases q : l = S.length
      · rw [if_pos q] at h'; cases h'
        exact .inr hp
      · rw [if_neg q] at h'; exact .inl h'
    · rw [upd_ne (ne a o h)]; exact h
    · rw [upd_ne (ne a o h)]; exact h
  refine ⟨_, ex, ?_, p, rfl, by show (if S.length = S.length then some p else M.loc S.length) = some p; rw [if_pos rfl]⟩
  refine ⟨fun l x q => ?_, fun l x h => ?_, fun l k x h1 h2 => ?_, fun a x h => ?_, fun a x h => ?_, fun a x l h q => ?_⟩
  · by_cases hl : l = S.length
    · subst hl
      rw [List.getElem?_append_right (Nat.le_refl _)] at q
      simp at q
      subst q
      exact ⟨p, by show (if S.length = S.length then some p else M.loc S.length) = some p; rw [if_pos rfl], by rw [upd_same]; exact h.mono ex⟩
    · have hlt : l < S.length := by
        have := (List.getElem?_eq_some_iff.mp q).1
        simp at this; omega
      rw [List.getElem?_append_left hlt] at q
      obtain ⟨a, e1, e2⟩ := rh.obj l x q
      have hne : a ≠ p := fun z => no l (by rw [← z]; exact e1)
      refine ⟨a, by show (if l = S.length then some p else M.loc l) = some a; rw [if_neg hl]; exact e1, ?_⟩
      rw [upd_ne hne]
      exact e2.mono ex
  · have h' : (if l = S.length then some p else M.loc l) = some x := h
    by_cases q : l = S.length
    · rw [q]; simp
    · rw [if_neg q] at h'
      have := rh.dom l x h'
      simp; omega
  · have h1' : (if l = S.length then some p else M.loc l) = some x := h1
    have h2' : (if k = S.length then some p else M.loc k) = some x := h2
    by_cases q1 : l = S.length <;> by_cases q2 : k = S.length
    · rw [q1, q2]
    · rw [if_pos q1] at h1'; rw [if_neg q2] at h2'; cases h1'; exact absurd h2' (no k)
    · rw [if_neg q1] at h1'; rw [if_pos q2] at h2'; cases h2'; exact absurd h1' (no l)
    · rw [if_neg q1] at h1'; rw [if_neg q2] at h2'; exact rh.inj l k x h1' h2'
  · have := rh.tup a x h
    rw [upd_ne (ne a _ this)]; exact this
  · have q : a ≠ p := fun q => by rw [q, nl] at h; cases h
    rcases rh.lst a x h with z | ⟨o, z⟩
    · exact .inl (by rw [upd_ne q]; exact z)
    · exact .inr ⟨o, by rw [upd_ne q]; exact z⟩
  · have h' : (if l = S.length then some p else M.loc l) = some a := q
    by_cases z : l = S.length
    · rw [if_pos z] at h'; cases h'
      rw [nl] at h; cases h
    · rw [if_neg z] at h'
      exact rh.apt a x l h h'
section
variable {X : Cx} {W : WX} {e : Expr} {ds : DA}
theorem make_go {c : Str} {C : Addr} {g : Fn} {M1 : Mp} {S1 : Store} {H1 : Hp} {xs : List D} {vs : List V} {s : L2.St} {Q : VK} (hC : X.mg c = some (.ref C)) (rh1 : RelH (gx X) M1 S1 H1) (rd1 : RelDs (gx X) M1 xs vs)
    (p1 : Post (gx X) (RD (gx X)) WN M1 H1 s ((g (.ref S1.length :: xs) (S1 ++ [.ins c []])).bind fun v S2 => match v with
      | .non => .ok (.ref S1.length) S2
      | _ => .bad) Q) (x dx : Addr) (hx : H1 x = none) (hd : H1 dx = none) (ne : dx ≠ x) :
    spD (gx X) g (.ref x :: (vs ++ [])) (upd (upd H1 dx (.own x)) x (.ins C dx [])) (fun v H2 => v = .non ∧ Q (.ref x) H2) EN := by
  rw [List.append_nil]
  have hx' : upd H1 dx (.own x) x = none := by rw [upd_ne (Ne.symm ne)]; exact hx
  obtain ⟨M2, e2, rh2, rd2⟩ := loc_any (o := .ins c []) (ho := .ins C dx []) (rh1.other (o := .own x) hd) hx' ⟨C, dx, [], rfl, hC, rfl⟩
  have e12 : Ext M1 H1 M2 _ := (Ext.other hd).trans e2
  refine ⟨M2, .ref S1.length :: xs, S1 ++ [.ins c []], RelDs.cons rd2 (rd1.mono e12), rh2, ?_⟩
  cases q : g (.ref S1.length :: xs) (S1 ++ [.ins c []]) with
  | ok v S2 =>
    rw [q] at p1
    intro M' y H' e' rh' rd'
    cases v with
    | non =>
      cases (show _ = _ from rd')
      exact ⟨rfl, p1 M' _ H' (e12.trans e') rh' (RelD.mono (G := gx X) (d := .ref S1.length) e' rd2)⟩
    | _ => exact p1.elim
  | exc c fs S2 =>
    rw [q] at p1
    exact fun M' H' C dx e' rh' q1 q2 => p1 M' H' C dx (e12.trans e') rh' q1 q2
  | bad => rw [q] at p1; exact p1.elim
theorem se_make {c : Str} {C : Addr} {g : Fn} (hC : X.mg c = some (.ref C)) (hc : PE X e (tMake C (spN (gx X) g) [] EN (tA (gx X) WN ds))) : SE X WN e (eMake c g ds) := by
  refine hc.dimp ?_
  rintro s H Q ⟨M, r, S, en, rh, p⟩
  refine ⟨M, r, S, en, rh, (Post.bind (R := RA (gx X)) p).imp fun vs H1 h => ?_⟩
  obtain ⟨M1, xs, S1, e1, rh1, rd1, p1⟩ := h
  exact fun x dx hx hd ne => make_go hC rh1 rd1 p1 x dx hx hd ne
theorem se_make0 {c : Str} {C : Addr} {g : Fn} (hC : X.mg c = some (.ref C)) (hc : PE X e (tMake C (spN (gx X) g) [] EN tNil)) : SE X WN e (eMake c g aNil) := by
  refine hc.dimp ?_
  rintro s H Q ⟨M, r, S, en, rh, p⟩
  exact fun x dx hx hd ne => make_go (M1 := M) (S1 := S) (xs := []) (vs := []) hC rh rfl p x dx hx hd ne
end
/-! ### a def keeps its promise -/
section
variable {P : Program} {w : World} {K : PySem.W.Frag} {mg : Str → Option Value} {base : Heap}
theorem fn_ok {x qual : Str} {params : Arguments} {body : List Stmt} {scope : Scope} {f : Addr} {fd : FuncData} {N ps : List Str} {k np n : Nat} {d : DS} (F : FunD K x qual params body scope [] [] f fd) (S : FnScope N ps scope) (hp : ps.length = np) (hn : N.length = n)
    (hb : ∀ (cdv : Value) (A : Around) (outer : List Env) (s : Shared) (H : Hp) (E : XK) (M0 : Mp), Room k (A.deeper (envOfC qual scope s.heap.objs.size f cdv)) → SSs (cxOf CX0 P w K mg base N qual scope f cdv A outer s H E).nox M0 H WN body d) :
    FnOk P w K mg base CX0 (k + 1) f fd ps (spN ⟨K, mg⟩ (fnD np n d)) := by
  have len : ∀ {vs : List V} {M : Mp} {ds : List D} {St : Store} {H : Hp} {Q : VK}, RelDs ⟨K, mg⟩ M ds vs → Post ⟨K, mg⟩ (RD ⟨K, mg⟩) (fun cls dx _ H => EN cls dx H) M H [] (fnD np n d ds St) Q → ds.length = np := fun {vs M ds St H Q} _ p => by
    unfold fnD at p
    split at p
    · assumption
    · exact p.elim
  refine F.ok S (fun vs H Q E h => ?_) fun cdv A outer s H vs Q E hr h => ?_
  · obtain ⟨M, ds, St, rd, rh, p⟩ := h
    rw [hp, ← len rd p, rd.len]
  · obtain ⟨M, ds, St, rd, rh, p⟩ := h
    have hl := len rd p
    refine ⟨_, PSs.nox (hb cdv A outer s H E M hr), M, ds.map Sl.val ++ List.replicate (n - np) Sl.un, St, ⟨⟨?_, fun i z q => ?_, fun i j xs ys a q1 => ?_⟩, rh, Ext.refl, fun i xs a q1 => ?_⟩, ?_⟩
    · have pre : ps.length ≤ N.length := by
        have := congrArg List.length S.pre
        rw [List.length_take] at this
        omega
      unfold L2.start
      simp only [List.length_append, List.length_map, List.length_replicate]
      rw [← rd.len]
      omega
    · unfold L2.start
      by_cases hi : i < ds.length
      · rw [List.getElem?_append_left (by simpa using hi), List.getElem?_map] at q
        obtain ⟨dx, hdx⟩ : ∃ dx, ds[i]? = some dx := ⟨ds[i], by simp [hi]⟩
        rw [hdx] at q
        cases q
        obtain ⟨v, hv, rv⟩ := rd.get hdx
        refine ⟨some v, ?_, v, rfl, rv⟩
        rw [List.getElem?_append_left (by simpa using (rd.len ▸ hi)), List.getElem?_map, hv]
        rfl
      · rw [List.getElem?_append_right (by simpa using hi)] at q
        rw [List.getElem?_replicate] at q
        split at q
        · rename_i hj
          cases q
          refine ⟨none, ?_, trivial⟩
          rw [List.getElem?_append_right (by simpa using (rd.len ▸ Nat.le_of_not_lt hi)), List.getElem?_replicate, if_pos (by
            simp only [List.length_map] at hj ⊢
            rw [← rd.len]
            omega)]
        · cases q
    · exfalso
      have := List.mem_of_getElem? q1
      simp at this
    · exfalso
      have := List.mem_of_getElem? q1
      simp at this
    · unfold fnD at p
      rw [if_pos hl] at p
      cases q : d (ds.map Sl.val ++ List.replicate (n - np) Sl.un) St with
      | next r S1 => rw [q] at p; exact fun M1 s1 H1 w1 l1 => p M1 .non H1 w1.ext w1.heap rfl
      | ret v r S1 => rw [q] at p; exact fun M1 y s1 H1 w1 l1 rv => p M1 y H1 w1.ext w1.heap rv
      | brk r S1 => rw [q] at p; exact p.elim
      | cont r S1 => rw [q] at p; exact p.elim
      | exc c fs r S1 => rw [q] at p; exact fun M1 s1 H1 C dx w1 l1 g x => p M1 H1 C dx w1.ext w1.heap g x
      | bad => rw [q] at p; exact p.elim
/-- the law's entry: nothing is there but the script -/
theorem law_sp {m : Fn} (h : ∀ ns : List Int, ns.length ≤ 63 → ∃ S, m [.lst (ns.map D.int)] [] = .ok (.bl true) S) (H : Hp) (a : Addr) (ns : List Int) (hl : ns.length ≤ 63) (hO : Only H) (hS : SqL K H a (ns.map V.int)) :
    spN ⟨K, mg⟩ m [.ref a] H (fun v _ => v = .bl true) fun _ _ _ => False := by
  obtain ⟨S, hm⟩ := h ns hl
  have intsR : ∀ (M : Mp) (zs : List Int), RelDs ⟨K, mg⟩ M (zs.map D.int) (zs.map V.int) := fun M zs => by
    induction zs with
    | nil => exact rfl
    | cons z zs ih => exact ⟨_, _, rfl, rfl, ih⟩
  have fin : ∀ M : Mp, RelH ⟨K, mg⟩ M [] H → (M.lst a = some (ns.map V.int) ∨ SqL K noHp a (ns.map V.int)) → spN ⟨K, mg⟩ m [.ref a] H (fun v _ => v = .bl true) fun _ _ _ => False := fun M rh ha => by
    refine ⟨M, [.lst (ns.map D.int)], [], RelDs.cons ⟨a, _, rfl, ha, intsR M ns⟩ rfl, rh, ?_⟩
    rw [hm]
    exact fun M' y H' _ _ rd => rd
  rcases hS with hS | hS
  · refine fin ⟨fun _ => none, fun _ => none, fun b => if b = a then some (ns.map V.int) else none⟩ ⟨fun l o q => (by simp at q), fun l b q => (by cases q), fun l k b q => (by cases q), fun b vs q => (by cases q), fun b vs q => ?_, fun b vs l q z => (by cases z)⟩ (.inl (by show (if a = a then _ else _) = _; rw [if_pos rfl]))
    have q : (if b = a then some (ns.map V.int) else none) = some vs := q
    split at q
    · rename_i e
      cases q
      rw [e]
      exact hS
    · cases q
  · exact fin ⟨fun _ => none, fun _ => none, fun _ => none⟩ ⟨fun l o q => (by simp at q), fun l b q => (by cases q), fun l k b q => (by cases q), fun b vs q => (by cases q), fun b vs q => (by cases q), fun b vs l q z => (by cases z)⟩ (.inr (.inr hS))
end
end Dn

set_option Elab.async false
set_option linter.all false
set_option maxRecDepth 100000
set_option maxHeartbeats 4000000
/-! The rules: == of instances, count, index. -/
namespace Dn
open PySem PySem.Spec PyProof.Rows PySem.SeqAt L2
/-- a class without an __eq__ of its own -/
structure NoEq (K : PySem.W.Frag) (C : Addr) : Prop where
  mro : PySem.W.mroIn K C (.type "object") = some true
  eq : PySem.W.findIn K (.ref C) "__eq__" = some (some (.builtin "object.__eq__"))
section
variable {prog : Program} {w : World} {A : Around} {E : Value → Shared → Prop} {s : Shared} {K : PySem.W.Frag} {x y C : Addr} {ox oy : Obj} {od od' : Option Obj}
theorem objEq_same {Q : Value → Shared → Prop} (X : K.In s.heap) (I : PySem.W.InstAt s.heap x ox C od) (n : NoEq K C) (hq : Q (.bool true) s) : wpAny (model prog w) A (call (.builtin "object.__eq__") [.ref x, .ref x]) Q E s :=
  wpAny_call (codeAny_call_builtin F.cmp_object.eq.plain F.cmpEntry_eq (PySem.W.check_slot F.cmpKind_eq F.cmpSplit_eq (I.type.andThen (PySem.W.looks_mroIn X n.mro)) (F.cmpArgs_eq _ _) (objEq_entry_same hq)))
theorem objEq_other {Q : Value → Shared → Prop} (X : K.In s.heap) (I : PySem.W.InstAt s.heap x ox C od) (hy : s.heap.get? y = some oy) (ne : x ≠ y) (n : NoEq K C) (hq : Q .notImplemented s) : wpAny (model prog w) A (call (.builtin "object.__eq__") [.ref x, .ref y]) Q E s :=
  wpAny_call (codeAny_call_builtin F.cmp_object.eq.plain F.cmpEntry_eq (PySem.W.check_slot F.cmpKind_eq F.cmpSplit_eq (I.type.andThen (PySem.W.looks_mroIn X n.mro)) (F.cmpArgs_eq _ _) (objEq_entry_other ne I.at_ hy (by rw [I.cls]; intro z; cases z) hq)))
theorem try_same {Q : Option Value → Shared → Prop} (X : K.In s.heap) (I : PySem.W.InstAt s.heap x ox C od) (n : NoEq K C) (hq : Q (some (.bool true)) s) : wpAny (model prog w) A (tryCompare (.ref x) "__eq__" (.ref x)) Q E s := by
  unfold tryCompare
  exact wpAny_bind (HN.ifBound_objEq X I n.eq (objEq_same X I n (wpAny_pure hq)))
theorem try_other {Q : Option Value → Shared → Prop} (X : K.In s.heap) (I : PySem.W.InstAt s.heap x ox C od) (hy : s.heap.get? y = some oy) (ne : x ≠ y) (n : NoEq K C) (hq : Q none s) : wpAny (model prog w) A (tryCompare (.ref x) "__eq__" (.ref y)) Q E s := by
  unfold tryCompare
  exact wpAny_bind (HN.ifBound_objEq X I n.eq (objEq_other X I hy ne n (wpAny_pure hq)))
theorem cmp_inst {Q : Value → Shared → Prop} (hu : A.units < cLine) (X : K.In s.heap) (I : PySem.W.InstAt s.heap x ox C od) (J : PySem.W.InstAt s.heap y oy C od') (n : NoEq K C) (hq : Q (.bool (decide (x = y))) s) : wpAny (model prog w) A (compareOp .Eq (.ref x) (.ref y)) Q E s := by
  show wpAny (model prog w) A (richCompare .Eq (.ref x) (.ref y)) Q E s
  simp only [richCompare, cmpInfo_Eq, oneThing_ref]
  refine wpAny_holding (wpAny_bind (wpAny_cRoomFor hu ?_))
  refine wpAny_bind (I.type.here ?_)
  refine wpAny_bind (J.type.here ?_)
  rw [if_neg (by simp)]
  refine wpAny_bind (wpAny_pure ?_)
  by_cases e : x = y
  · subst e
    rw [decide_eq_true rfl] at hq
    simp only [Bool.false_eq_true, if_false]
    exact wpAny_bind (try_same X I n (wpAny_pure hq))
  · rw [decide_eq_false e] at hq
    simp only [Bool.false_eq_true, if_false, Bool.not_false, if_true]
    refine wpAny_bind (try_other X I J.at_ e n ?_)
    refine wpAny_bind (try_other X J I.at_ (Ne.symm e) n ?_)
    refine wpAny_bind (wpAny_rule (wpAny_bind (wpAny_isSame_ref_other e I.at_ J.at_ (by rw [I.cls]; intro z; cases z) (wpAny_pure hq))))
end
section
variable {X : Cx}
def rSame (K : PySem.W.Frag) : R2 := fun x y H Q => ∃ a b C dx fs dy gs, x = .ref a ∧ y = .ref b ∧ H a = some (.ins C dx fs) ∧ H b = some (.ins C dy gs) ∧ NoEq K C ∧ Q (.bl (decide (a = b))) H
theorem op_same (hu : X.A.units < cLine) : OpR X (compareOp .Eq) (rSame X.K) := by
  intro pins s z H x y v u Q I rx ry h
  obtain ⟨a, b, C, dx, fs, dy, gs, rfl, rfl, ha, hb, n, q⟩ := h
  cases rx
  cases ry
  obtain ⟨mA, O, _⟩ := ins_get I.hok ha
  obtain ⟨od, J, _⟩ := O.look
  obtain ⟨mB, O', _⟩ := ins_get I.hok hb
  obtain ⟨od', J', _⟩ := O'.look
  exact cmp_inst hu I.kIn J J' n ⟨.bl _, H, I, rfl, q⟩
theorem opb_same {G : Gx} {c : Str} (hn : ∀ C, G.mg c = some (.ref C) → NoEq G.K C) : OpB G (rSame G.K) (cmpSame c) := by
  intro M S H x y b v u Q rh rx ry h q
  unfold cmpSame at h
  split at h
  · rename_i l k
    split at h
    · rename_i a f1 a' f2 e1 e2
      split at h
      · rename_i hc
        obtain ⟨rfl, rfl⟩ := hc
        cases h
        obtain ⟨p, rfl, h1⟩ := rx
        obtain ⟨p', rfl, h2⟩ := ry
        obtain ⟨p1, y1, C, dx, vfs, x2, x3, x4⟩ := rh.obj l _ e1
        rw [h1] at y1; cases y1
        obtain ⟨p2, y1, C', dx', vfs', x2', x3', x4'⟩ := rh.obj k _ e2
        rw [h2] at y1; cases y1
        rw [x3] at x3'
        cases x3'
        refine ⟨p, p', C, dx, vfs, dx', vfs', rfl, rfl, x2, x2', hn C x3, ?_⟩
        have e : decide (p = p') = decide (l = k) := by
          by_cases e : l = k
          · subst e
            rw [h1] at h2; cases h2
            simp
          · rw [decide_eq_false e, decide_eq_false fun z => e (rh.inj l k p h1 (by rw [z]; exact h2))]
        rw [e]
        exact q
      · cases h
    · cases h
  · cases h
/-! ### count, index -/
def rCntD (K : PySem.W.Frag) : V → List V → Hp → VK → Prop := fun x xs H Q => ∃ (a : Addr) (y : V) (d : PyData) (ds : List PyData), x = V.ref a ∧ xs = [y] ∧ Dp K H (V.ref a) (.list ds) ∧ Dp K H y d ∧ SeqAt.shaped (.list ds) = true ∧ SeqAt.shaped d = true ∧ Q (.int (ds.countP fun z => PyData.eqv z d)) H
theorem mt_countD (hu : X.A.units + 65 < cLine) : MtR X "list.count" (rCntD X.K) := by
  intro pins s z H x xs v us Q I rx rxs h
  obtain ⟨a, y, d, ds, rfl, rfl, hl, hy, sl, sd, q⟩ := h
  cases rx
  obtain ⟨u, rfl, ru⟩ := rxs.one
  obtain ⟨bs, r1⟩ := Dp.reads I d y u hy ru
  have room : X.A.units + 1 + min (PyData.depthAll ds) d.depth < cLine := room_in_shaped sd hu
  cases hl with
  | lst hs ha =>
    obtain ⟨its, rv, pl, hlen⟩ := I.list hs
    obtain ⟨as, h4⟩ := Dp.readsAll I ds _ its ha rv
    have hx : PyData.plainAll ds = true := PyData.plainAll_of_canLay0 ds (SeqAt.canLay_of_shaped sl)
    have hd : d.plain = true := PyData.plain_of_canLay0 d (SeqAt.canLay_of_shaped sd)
    exact count_list_data (vs := its.toArray) pl.isList (show ReadsAll s.heap its.toArray.toList ds as from h4) r1 hx hd room ⟨.int _, H, I.tok _, ⟨_, rfl⟩, q⟩
theorem lst_shaped {xs : List D} (h : D.pls 63 xs = true) : SeqAt.shaped (.list (D.Ps xs)) = true := by
  have q := Ps_lay h
  have q1 : (PyData.list (D.Ps xs)).canLay0 = true := by simp only [PyData.canLay0]; exact q.1
  have q2 : (PyData.list (D.Ps xs)).depth ≤ 64 := by simp only [PyData.depth]; omega
  unfold SeqAt.shaped
  rw [q1, decide_eq_true q2]
  rfl
theorem one_shaped {x : D} (h : D.pl 63 x = true) : SeqAt.shaped x.P = true := by
  have q := P_lay h
  unfold SeqAt.shaped
  rw [q.1, decide_eq_true (by omega)]
  rfl
theorem count_P {x : D} (hx : D.pl 63 x = true) : ∀ {xs : List D}, D.pls 63 xs = true → (D.Ps xs).countP (fun z => PyData.eqv z x.P) = xs.countP fun z => eqD z x
  | [], _ => rfl
  | y :: xs, h => by
    have h' : D.pl 63 y = true ∧ D.pls 63 xs = true := by simpa [D.pls] using h
    simp only [D.Ps, List.countP_cons]
    rw [eqv_of y x h'.1 hx, count_P hx h'.2]
theorem Ps_get : ∀ {xs : List D} {j : Nat} {y : D}, xs[j]? = some y → (D.Ps xs)[j]? = some y.P
  | [], _, _, h => by simp at h
  | x :: xs, 0, y, h => by
    simp at h; subst h
    simp [D.Ps]
  | x :: xs, j + 1, y, h => by
    simp only [D.Ps, List.getElem?_cons_succ]
    exact Ps_get (by simpa using h)
theorem Ps_getI : ∀ {xs : List D} {j : Nat} {z : PyData}, (D.Ps xs)[j]? = some z → ∃ y, xs[j]? = some y ∧ z = y.P
  | [], _, _, h => by simp [D.Ps] at h
  | x :: xs, 0, z, h => by
    simp [D.Ps] at h; subst h
    exact ⟨x, rfl, rfl⟩
  | x :: xs, j + 1, z, h => by
    simp only [D.Ps, List.getElem?_cons_succ] at h
    obtain ⟨y, h1, h2⟩ := Ps_getI h
    exact ⟨y, by simpa using h1, h2⟩
theorem pls_at {k : Nat} : ∀ {xs : List D} {j : Nat} {y : D}, D.pls k xs = true → xs[j]? = some y → D.pl k y = true
  | [], _, _, _, h => by simp at h
  | x :: xs, 0, y, h, e => by
    have h' : D.pl k x = true ∧ D.pls k xs = true := by simpa [D.pls] using h
    simp at e; subst e
    exact h'.1
  | x :: xs, j + 1, y, h, e => by
    have h' : D.pl k x = true ∧ D.pls k xs = true := by simpa [D.pls] using h
    exact pls_at h'.2 (by simpa using e)
variable {W : WX} {e a : Expr} {da : DE} {dl : DL}
theorem sq_list {K : PySem.W.Frag} {H : Hp} {p : Addr} {vs : List V} (h : SqL K H p vs) : tyV K "list" (.ref p) H := .inl ⟨rfl, vs, h⟩
theorem cnt_go {G : Gx} {f : D → List D → Option D} {M : Mp} {S : Store} {H : Hp} {r : Rho} {s : L2.St} {c : Src} {v : V} {Q : VK} (rh : RelH G M S H) (en : EnvR G M H r s) (rd : RSrc G s M H c v)
    (p : Post G (RD G) W M H s ((Rs.ofO (if c.isT then none else c.get r S) S).bind fun _ S => (da r S).bind fun x S => (Rs.ofO (c.get r S) S).bind fun xs S => if D.pl 63 x && D.pls 63 xs then Rs.ofO (f x xs) S else .bad) Q)
    {Q2 : V → Hp → Prop}
    (k : ∀ (M2 : Mp) (S2 : Store) (H2 : Hp) (x : D) (y : V) (xs : List D) (vs : List V) (pa : Addr) (z : D), v = .ref pa → RelH G M2 S2 H2 → RelD G M2 x y → SqL G.K H2 pa vs → RelDs G M2 xs vs → D.pl 63 x = true → D.pls 63 xs = true → f x xs = some z →
      (∀ w, RelD G M2 z w → Q w H2) → Q2 y H2) : tyV G.K "list" v H ∧ tE G W da s H Q2 := by
  cases ht : c.isT with
  | true => rw [ht] at p; exact p.elim
  | false =>
    rw [ht] at p
    cases q : c.get r S with
    | none => rw [q] at p; exact p.elim
    | some xs0 =>
      rw [q] at p
      obtain ⟨pa, vs0, rfl, h1, h2⟩ := src_ok rh en rd q
      rw [ht] at h1
      refine ⟨sq_list h1, M, r, S, en, rh, (Post.bind (R := RD G) p).imp fun y H2 h => ?_⟩
      obtain ⟨M2, x, S2, e2, rh2, rd2, p2⟩ := h
      cases q2 : c.get r S2 with
      | none => rw [q2] at p2; exact p2.elim
      | some xs =>
        rw [q2] at p2
        obtain ⟨pb, vs, e3, h3, h4⟩ := src_ok rh2 (en.mono e2) (rd.mono e2) q2
        cases e3
        rw [ht] at h3
        simp only [Rs.ofO_some, Rs.bind_ok] at p2
        split at p2
        · rename_i hc
          simp only [Bool.and_eq_true] at hc
          cases q3 : f x xs with
          | none => rw [q3] at p2; exact p2.elim
          | some z =>
            rw [q3] at p2
            exact k M2 S2 H2 x y xs vs pa z rfl rh2 rd2 h3 h4 hc.1 hc.2 q3 fun w rw' => p2 M2 w H2 Ext.refl rh2 rw'
        · exact p2.elim
theorem se_count (h : PE X e (tBM X.K "list" (rCntD X.K) (tL (gx X) W dl) (tCons (tE (gx X) W da) tNil))) : SE X W e (eCount dl da) := by
  refine h.dimp ?_
  rintro s H Q ⟨M, r, S, en, rh, p⟩
  refine ⟨M, r, S, en, rh, (Post.bind (R := RSrc (gx X) s) p).imp fun v H1 h => ?_⟩
  obtain ⟨M1, c, S1, e1, rh1, rd1, p1⟩ := h
  refine cnt_go (f := fun x xs => some (.int (xs.countP fun z => eqD z x : Nat))) rh1 (en.mono e1) rd1 p1 fun M2 S2 H2 x y xs vs pa z ev rh2 rx hs rs hx hxs hz q => ?_
  subst ev
  cases hz
  refine ⟨pa, y, x.P, D.Ps xs, rfl, rfl, .lst hs (RelDs.dps rh2 hxs rs), RelD.dp rh2 hx rx, lst_shaped hxs, one_shaped hx, ?_⟩
  rw [count_P hx hxs]
  exact q _ rfl
theorem se_index (h : PE X e (tBM X.K "list" (rIndexD X.K) (tL (gx X) W dl) (tCons (tE (gx X) W da) tNil))) : SE X W e (eIndex dl da) := by
  refine h.dimp ?_
  rintro s H Q ⟨M, r, S, en, rh, p⟩
  refine ⟨M, r, S, en, rh, (Post.bind (R := RSrc (gx X) s) p).imp fun v H1 h => ?_⟩
  obtain ⟨M1, c, S1, e1, rh1, rd1, p1⟩ := h
  refine cnt_go (f := fun x xs => if xs.any (fun z => eqD z x) then some (.int (xs.findIdx fun z => eqD z x : Nat)) else none) (Q := Q) rh1 (en.mono e1) rd1 ?_ fun M2 S2 H2 x y xs vs pa z ev rh2 rx hs rs hx hxs hz q => ?_
  · have e : (fun (x : D) (S : Store) => (Rs.ofO (c.get r S) S).bind fun xs S => if D.pl 63 x && D.pls 63 xs && xs.any (fun z => eqD z x) then Rs.ok (D.int (xs.findIdx fun z => eqD z x : Nat)) S else Rs.bad) =
        fun (x : D) (S : Store) => (Rs.ofO (c.get r S) S).bind fun xs S => if D.pl 63 x && D.pls 63 xs then Rs.ofO (if xs.any (fun z => eqD z x) then some (D.int (xs.findIdx fun z => eqD z x : Nat)) else none) S else Rs.bad := by
      funext x S
      congr 1
      funext xs S
      by_cases h1 : (D.pl 63 x && D.pls 63 xs) = true
      · by_cases h2 : xs.any (fun z => eqD z x) = true
        · simp [h1, h2]
        · simp [h1, h2]
      · simp [h1]
    rw [← e]
    exact p1
  · subst ev
    split at hz
    · rename_i ha
      cases hz
      have hlt : (xs.findIdx fun z => eqD z x) < xs.length := List.findIdx_lt_length_of_exists (by simpa using List.any_eq_true.mp ha)
      have hg : xs[xs.findIdx fun z => eqD z x]? = some xs[xs.findIdx fun z => eqD z x] := List.getElem?_eq_getElem hlt
      have hp : eqD xs[xs.findIdx fun z => eqD z x] x = true := List.findIdx_getElem (p := fun z => eqD z x) (w := hlt)
      refine ⟨pa, y, x.P, D.Ps xs, xs.findIdx fun z => eqD z x, _, rfl, rfl, .lst hs (RelDs.dps rh2 hxs rs), RelD.dp rh2 hx rx, lst_shaped hxs, one_shaped hx, Ps_get hg, ?_, fun m z' hm hz' => ?_, q _ rfl⟩
      · rw [eqv_of _ x (pls_at hxs hg) hx]
        exact hp
      · obtain ⟨y', h1, rfl⟩ := Ps_getI hz'
        rw [eqv_of y' x (pls_at hxs h1) hx]
        have hlm : m < xs.length := (List.getElem?_eq_some_iff.mp h1).1
        have := List.not_of_lt_findIdx (p := fun z => eqD z x) hm
        rw [List.getElem?_eq_getElem hlm] at h1
        cases h1
        simpa using this
    · cases hz
end
end Dn

set_option Elab.async false
set_option linter.all false
set_option maxRecDepth 100000
set_option maxHeartbeats 4000000
/-! The head's facts, with more of the classes. -/
namespace Dn
open PySem PySem.Spec PyProof.Rows L2
/-- more facts: a class without an __eq__ -/
inductive Fx where
  | noeq (x : Str)
def Fx.ok (K : PySem.W.Frag) : Fx → Bool
  | .noeq x => decide (PySem.W.mroIn K (He.ga K x) (.type "object") = some true) && He.eqO (PySem.W.findIn K (.ref (He.ga K x)) "__eq__") (some (some (.builtin "object.__eq__")))
abbrev AlX : Type := Bool × He.AlD
def obsX (n : Nat) (fx : List Fx) (fa : List He.Fa) (fn : List He.DefD) (g : Addr → Option Obj) : AlX := (fx.all fun f => f.ok (He.frG g (He.asD g n)), He.obsDG n fa fn g)
def SaysX (fx : List Fx) (fa : List He.Fa) (fn : List He.DefD) (K : PySem.W.Frag) : Prop := He.SaysD fa fn K ∧ (fx.all fun f => f.ok K) = true
def hookX (n : Nat) (fx : List Fx) (fa : List He.Fa) (fn : List He.DefD) : PySem.W.Hook where
  α := AlX
  obs := fun s => obsX n fx fa fn s.heap.get?
  val := fun _ => (true, He.valD fn)
  says := fun _ h => ∃ K : PySem.W.Frag, K.In h ∧ SaysX fx fa fn K
  of := fun _ _ e => ⟨_, He.frG_in, congrArg (fun z : AlX => z.2) e, congrArg (fun z : AlX => z.1) e⟩
  keeps := fun _ _ _ ⟨K, hK, c⟩ k => ⟨K, PySem.W.Frag.In.keeps hK k, c⟩
theorem obsX_eq {n : Nat} {fx : List Fx} {fa : List He.Fa} {fn : List He.DefD} {g : Addr → Option Obj} {s : Shared} (h : ∀ a, g a = s.heap.get? a) : obsX n fx fa fn g = (hookX n fx fa fn).obs s := by
  have e : g = s.heap.get? := funext h
  rw [e] <;> rfl
theorem noeq_ok {K : PySem.W.Frag} {x : Str} (c : (Fx.noeq x).ok K = true) : NoEq K (He.ga K x) := by
  unfold Fx.ok at c
  simp only [Bool.and_eq_true, decide_eq_true_eq] at c
  exact ⟨c.1, He.eqO_ok c.2⟩
theorem SaysX.fact {fx : List Fx} {fa : List He.Fa} {fn : List He.DefD} {K : PySem.W.Frag} (c : SaysX fx fa fn K) (i : Nat) {f : He.Fa} (h : fa[i]? = some f := by rfl) : f.ok K = true := c.1.fact i h
theorem SaysX.def_ {fx : List Fx} {fa : List He.Fa} {fn : List He.DefD} {K : PySem.W.Frag} (c : SaysX fx fa fn K) (i : Nat) {d : He.DefD} (h : fn[i]? = some d := by rfl) : ∃ fd, FunD K d.name d.qual d.params d.body d.scope (d.dvs K) (d.kws K) (He.fAd K d.at_) fd := c.1.def_ i h
theorem SaysX.more {fx : List Fx} {fa : List He.Fa} {fn : List He.DefD} {K : PySem.W.Frag} (c : SaysX fx fa fn K) (i : Nat) {f : Fx} (h : fx[i]? = some f := by rfl) : f.ok K = true := List.all_eq_true.mp c.2 f (List.mem_of_getElem? h)
/-! ### tests, short words -/
theorem tofb_t {G : Gx} {W : WX} {d : DE} {s : L2.St} {H : Hp} {Q : Bool → Hp → Prop} (h : tT G W (tOfB d) s H Q) : tE G W d s H fun x H1 => ∃ k, x = .bl k ∧ Q k H1 := by
  obtain ⟨M, r, S, en, rh, p⟩ := h
  refine ⟨M, r, S, en, rh, p.bind.imp fun v H1 h => ?_⟩
  obtain ⟨M1, x, S1, e1, rh1, rd1, p1⟩ := h
  cases x with
  | bl b =>
    cases (show _ = _ from rd1)
    exact ⟨b, rfl, p1 M1 _ H1 Ext.refl rh1 rfl⟩
  | _ => exact p1.elim
section
variable {X : Cx} {W : WX} {a b c e : Expr} {da db dc : DE} {dl : DL} {pos : Pos}
theorem st_in {op : CmpOp} {neg : Bool} (ho : OpR X (compareOp op) (rInA X.K neg)) (ha : SE X W a da) (hb : SL X W b dl) (hm : behindInMarks op b = false) : ST X W (.Compare a [op] [b] pos) (tOfB (eIn neg da dl)) :=
  (pt_cmpR ho ha hb hm).dimp fun _ _ _ h => in_t (tofb_t h)
theorem st_chain {op op' : CmpOp} {r r' : R2} {f g : Store → D → D → Option Bool} (hf : OpB (gx X) r f) (hg : OpB (gx X) r' g) (hm : PT X (.Compare a [op, op'] [b, c] pos) (tTest (tChain r r' (tE (gx X) W da) (tE (gx X) W db) (tE (gx X) W dc)))) :
    ST X W (.Compare a [op, op'] [b, c] pos) (tOfB (eChain f g da db dc)) := hm.dimp fun _ _ _ h => chain_t hf hg (tofb_t h)
theorem sv (i : Nat) {x : Str} (hN : X.N[i]? = some x := by rfl) (hv : Vis X.env.scope x := by first | exact Or.inl rfl | exact Or.inr (Or.inl rfl) | exact Or.inr (Or.inr rfl)) (hd : (x == ("__debug__" : Str)) = false := by decide) (hcd : (x == ("__classdict__" : Str)) = false := by decide) : SE X W (.Name x pos) (eVar i) := se_var hN hv hd hcd
end
section
variable {X : Cx} {M0 : Mp} {H0 : Hp} {W : WX} {e : Expr} {st : Stmt} {di : DI} {g : TG} {d : DG} {dt : DT} {de : DE} {is vs : List Nat} {i : Nat}
theorem pts_y {G : Gx} {W : WX} : PTs X [] (tT G W tYesD) := ⟨fun pins s z H Q I h => pts_nil.run pins s z H Q I (by
  obtain ⟨M, r, S, en, rh, p⟩ := h
  exact p M _ H Ext.refl rh rfl)⟩
theorem sn_lcT (hg : GOk (gx X) is g d) (hv : ∀ i ∈ is, i ∈ vs) (h : PE X e (tLc (tI (gx X) W di) g (tT (gx X) WN dt) (tE (gx X) WN de) vs)) : SN X W e (nLc di d dt de vs) := h.dimp fun _ _ _ => lc_t hg hv
theorem ss_lcFT (hg : GOk (gx X) is g d) (hv : ∀ i ∈ is, i ∈ vs) (h : PS X st (tAsg (tLc (tI (gx X) W di) g (tT (gx X) WN dt) (tE (gx X) WN de) vs) (gName i))) : SS X M0 H0 W st (sSet i (eFrz (nLc di d dt de vs))) := ss_lcF h fun _ _ _ => lc_t hg hv
theorem ss_lcNT (hg : GOk (gx X) is g d) (hv : ∀ i ∈ is, i ∈ vs) (h : PS X st (tAsg (tLc (tI (gx X) W di) g (tT (gx X) WN dt) (tE (gx X) WN de) vs) (gName i))) : SS X M0 H0 W st (sSet i (eNew (nLc di d dt de vs))) := ss_lcN h fun _ _ _ => lc_t hg hv
theorem ss_lcOT (hg : GOk (gx X) is g d) (hv : ∀ i ∈ is, i ∈ vs) (h : PS X st (tAsg (tLc (tI (gx X) W di) g (tT (gx X) WN dt) (tE (gx X) WN de) vs) (gName i))) : SS X M0 H0 W st (sSetOwn i (nLc di d dt de vs)) := ss_lcO h fun _ _ _ => lc_t hg hv
end
theorem hu0 {k : Nat} {A : Around} (h : Room k A) : A.units < cLine := by have := h.un; omega
theorem hu64 {k : Nat} {A : Around} (h : Room k A) : A.units + 64 < cLine := by have := h.un; omega
theorem hu65 {k : Nat} {A : Around} (h : Room k A) : A.units + 65 < cLine := by have := h.un; omega
theorem hu70 {k : Nat} {A : Around} (h : Room k A) : A.units + 70 < cLine := by have := h.un; omega
/-- a class's field, from the head's facts -/
theorem fld_of {G : Gx} {c f : Str} (hg : G.mg c = some (.ref (He.ga G.K c))) (hc : Cls G.K (He.ga G.K c)) (hn : NoAttr G.K (He.ga G.K c) f) : FldOk G c f := fun C h => by
  rw [hg] at h
  cases h
  exact ⟨hc, hn⟩
theorem noeq_of {G : Gx} {c : Str} (hg : G.mg c = some (.ref (He.ga G.K c))) (hn : NoEq G.K (He.ga G.K c)) : ∀ C, G.mg c = some (.ref C) → NoEq G.K C := fun C h => by
  rw [hg] at h
  cases h
  exact hn
theorem gs_in {is vs : List Nat} (h : (is.all fun i => vs.contains i) = true) : ∀ i ∈ is, i ∈ vs := fun i hi => by
  have := List.all_eq_true.mp h i hi
  simpa using this
/-- a def's function object is one -/
theorem fd_one {K : PySem.W.Frag} {x x' qual qual' : Str} {params params' : Arguments} {body body' : List Stmt} {scope scope' : Scope} {dvs dvs' : List V} {kws kws' : List (Str × V)} {f : Addr} {fd fd' : FuncData} (F : FunD K x qual params body scope dvs kws f fd) (F' : FunD K x' qual' params' body' scope' dvs' kws' f fd') : fd = fd' := by
  obtain ⟨oc, od, dV, kV, doc, pm, an, cdv, ct, osl, _, lk, _⟩ := F.ex
  obtain ⟨oc', od', dV', kV', doc', pm', an', cdv', ct', osl', _, lk', _⟩ := F'.ex
  rw [lk] at lk'
  injection lk' with e
  injection e with _ _ e
  injection e
end Dn

set_option Elab.async false
set_option linter.all false
set_option maxRecDepth 100000
set_option maxHeartbeats 4000000
namespace L07
open PySem Dn
/-- is_integer (0 thing) -/
noncomputable def b_is_integer : DS := sRet (eAnd (eIsTy "int" (eVar 0)) (eNot (eIsTy "bool" (eVar 0))))
noncomputable def m_is_integer : Fn := fnD 1 1 b_is_integer
/-- is_within (0 thing, 1 least, 2 most) -/
noncomputable def b_is_within : DS := sRet (eAnd (eCall m_is_integer (aCons (eVar 0) (aNil))) (eChain (fun _ => cmpI iLe) (fun _ => cmpI iLe) (eVar 1) (eVar 0) (eVar 2)))
noncomputable def m_is_within : Fn := fnD 3 3 b_is_within
/-- check_lines (0 thing) -/
noncomputable def b_check_lines : DS := sIf (tNotD (tOfB (eCall m_is_within (aCons (eVar 0) (aCons (eC (.int 1)) (aCons (eC (.int 12)) (aNil))))))) (sBad) (sNext)
noncomputable def m_check_lines : Fn := fnD 1 1 b_check_lines
/-- Ideal.__init__ (0 self, 1 outputs, 2 output) -/
noncomputable def b_Ideal_init : DS := sSeq (sDrop (eCall m_check_lines (aCons (eVar 1) (aNil)))) (sFldD ["Ideal"] "kept_keys" (eVar 0) (eNew (nLc (iRange1 (eVar 1)) (gNameD 2) (tYesD) (eNew (nLst (aNil))) [2])))
noncomputable def m_Ideal_init : Fn := fnD 2 3 b_Ideal_init
/-- Ideal.copy (0 self, 1 found, 2 keys) -/
noncomputable def b_Ideal_copy : DS := sSeq (sSet 1 (eMake "Ideal" m_Ideal_init (aCons (eLen (lE (eFld ["Ideal"] "kept_keys" (eVar 0)))) (aNil)))) (sSeq (sFldD ["Ideal"] "kept_keys" (eVar 1) (eNew (nLc (iSeqD (eFld ["Ideal"] "kept_keys" (eVar 0))) (gNameD 2) (tYesD) (eNew (nLstOf (lE (eVar 2)))) [2]))) (sRet (eVar 1)))
noncomputable def m_Ideal_copy : Fn := fnD 1 3 b_Ideal_copy
/-- Ideal.check_output (0 self, 1 thing) -/
noncomputable def b_Ideal_check_output : DS := sIf (tNotD (tOfB (eCall m_is_within (aCons (eVar 1) (aCons (eC (.int 0)) (aCons (eOp (fun _ => opSub) (eLen (lE (eFld ["Ideal"] "kept_keys" (eVar 0)))) (eC (.int 1))) (aNil))))))) (sBad) (sNext)
noncomputable def m_Ideal_check_output : Fn := fnD 2 2 b_Ideal_check_output
/-- Ideal.held (0 self, 1 output) -/
noncomputable def b_Ideal_held : DS := sSeq (sDrop (eMeth "Ideal" "check_output" m_Ideal_check_output (eVar 0) (aCons (eVar 1) (aNil)))) (sRet (eTupOf (lE (eIx (lE (eFld ["Ideal"] "kept_keys" (eVar 0))) (eVar 1)))))
noncomputable def m_Ideal_held : Fn := fnD 2 2 b_Ideal_held
/-- Ideal.let_go (0 self, 1 output) -/
noncomputable def b_Ideal_let_go : DS := sSeq (sDrop (eMeth "Ideal" "check_output" m_Ideal_check_output (eVar 0) (aCons (eVar 1) (aNil)))) (sSeq (sIf (tOfB (eCmp cmpEq (eLen (lE (eIx (lE (eFld ["Ideal"] "kept_keys" (eVar 0))) (eVar 1)))) (eC (.int 0)))) (sBad) (sNext)) (sRet (ePopR (eIx (lE (eFld ["Ideal"] "kept_keys" (eVar 0))) (eVar 1)) (eC (.int 0)))))
noncomputable def m_Ideal_let_go : Fn := fnD 2 2 b_Ideal_let_go
/-- is_pair (0 thing) -/
noncomputable def b_is_pair : DS := sRet (eAnd (eIsTy "tuple" (eVar 0)) (eCmp cmpEq (eLen (lE (eVar 0))) (eC (.int 2))))
noncomputable def m_is_pair : Fn := fnD 1 1 b_is_pair
/-- is_key (0 thing) -/
noncomputable def b_is_key : DS := sRet (eAnd (eCall m_is_pair (aCons (eVar 0) (aNil))) (eAnd (eCall m_is_within (aCons (eIx (lE (eVar 0)) (eC (.int 0))) (aCons (eUn opNeg (eC (.int 1000000000000000000))) (aCons (eC (.int 1000000000000000000)) (aNil))))) (eAnd (eCall m_is_integer (aCons (eIx (lE (eVar 0)) (eC (.int 1))) (aNil))) (eCmp (fun _ => cmpI iGe) (eIx (lE (eVar 0)) (eC (.int 1))) (eC (.int 0))))))
noncomputable def m_is_key : Fn := fnD 1 1 b_is_key
/-- check_key (0 thing) -/
noncomputable def b_check_key : DS := sIf (tNotD (tOfB (eCall m_is_key (aCons (eVar 0) (aNil))))) (sBad) (sNext)
noncomputable def m_check_key : Fn := fnD 1 1 b_check_key
/-- Ideal.push (0 self, 1 output, 2 key, 3 rank, 4 cell) -/
noncomputable def b_Ideal_push : DS := sSeq (sDrop (eMeth "Ideal" "check_output" m_Ideal_check_output (eVar 0) (aCons (eVar 1) (aNil)))) (sSeq (sDrop (eCall m_check_key (aCons (eVar 2) (aNil)))) (sSeq (sIf (tOfB (eIn false (eIx (lE (eVar 2)) (eC (.int 1))) (lE (eFrz (nLc (iSeqD (eIx (lE (eFld ["Ideal"] "kept_keys" (eVar 0))) (eVar 1))) (gTupD 2 (gsCons (gNameD 3) (gsCons (gNameD 4) (gsNil)))) (tYesD) (eVar 4) [3, 4]))))) (sBad) (sNext)) (sPutR (eFld ["Ideal"] "kept_keys" (eVar 0)) (eVar 1) (eNew (nSorted (lE (eOp opAdd (eIx (lE (eFld ["Ideal"] "kept_keys" (eVar 0))) (eVar 1)) (eFrz (nLst (aCons (eVar 2) (aNil)))))))))))
noncomputable def m_Ideal_push : Fn := fnD 3 5 b_Ideal_push
/-- _law_draw (0 _law_hand_here, 1 _law_many, 2 _law_cell, 3 _law_digit, 4 _law_number) -/
noncomputable def b__law_draw : DS := sSeq (sIf (tAndD (tOfB (eCmp cmpEq (eIx (lE (eVar 0)) (eC (.int 2))) (eC (.int 0)))) (tOfB (eCmp (fun _ => cmpI iLt) (eIx (lE (eVar 0)) (eC (.int 1))) (eLen (lE (eIx (lE (eVar 0)) (eC (.int 0)))))))) (sSeq (sSet 2 (eIx (lE (eIx (lE (eVar 0)) (eC (.int 0)))) (eIx (lE (eVar 0)) (eC (.int 1))))) (sSeq (sPutR (eVar 0) (eC (.int 1)) (eOp opAdd (eIx (lE (eVar 0)) (eC (.int 1))) (eC (.int 1)))) (sSeq (sPutR (eVar 0) (eC (.int 3)) (eOp (fun _ => opMod) (eInt (eOp opAdd (eOp opAdd (eOp opMul (eIx (lE (eVar 0)) (eC (.int 3))) (eC (.int 69621))) (eVar 2)) (eC (.int 11)))) (eC (.int 2147483629)))) (sIf (tOfB (eCmp (fun _ => cmpI iGe) (eVar 2) (eOp (fun _ => opPow) (eC (.int 10)) (eC (.int 18))))) (sPutR (eVar 0) (eC (.int 2)) (eVar 2)) (sNext))))) (sNext)) (sSeq (sIf (tOfB (eCmp (fun _ => cmpI iGt) (eIx (lE (eVar 0)) (eC (.int 2))) (eC (.int 0)))) (sSeq (sSet 3 (eOp (fun _ => opMod) (eInt (eIx (lE (eVar 0)) (eC (.int 2)))) (eVar 1))) (sSeq (sPutR (eVar 0) (eC (.int 2)) (eOp (fun _ => opDiv) (eIx (lE (eVar 0)) (eC (.int 2))) (eVar 1))) (sRet (eVar 3)))) (sNext)) (sSeq (sPutR (eVar 0) (eC (.int 4)) (eOp opAdd (eIx (lE (eVar 0)) (eC (.int 4))) (eC (.int 1)))) (sSeq (sSet 4 (eOp (fun _ => opMod) (eInt (eOp opMul (eInt (eOp opAdd (eIx (lE (eVar 0)) (eC (.int 3))) (eOp opMul (eC (.int 7919)) (eIx (lE (eVar 0)) (eC (.int 4)))))) (eC (.int 48271)))) (eC (.int 2147483647)))) (sSeq (sSet 4 (eOp (fun _ => opMod) (eInt (eOp opMul (eVar 4) (eOp opAdd (eOp (fun _ => opDiv) (eVar 4) (eC (.int 1009))) (eC (.int 69621))))) (eC (.int 2147483647)))) (sSeq (sSet 4 (eOp (fun _ => opMod) (eInt (eOp opMul (eVar 4) (eOp opAdd (eOp (fun _ => opDiv) (eVar 4) (eC (.int 2003))) (eC (.int 40692))))) (eC (.int 2147483399)))) (sRet (eOp (fun _ => opMod) (eInt (eOp (fun _ => opDiv) (eVar 4) (eC (.int 16)))) (eVar 1))))))))
noncomputable def m__law_draw : Fn := fnD 2 5 b__law_draw
/-- _law_any (0 _law_hand_here, 1 _law_some) -/
noncomputable def b__law_any : DS := sRet (eIx (lE (eVar 1)) (eCall m__law_draw (aCons (eVar 0) (aCons (eLen (lE (eVar 1))) (aNil)))))
noncomputable def m__law_any : Fn := fnD 2 2 b__law_any
/-- _law_hand (0 _law_script, 1 _law_given, 2 _law_cell) -/
noncomputable def b__law_hand : DS := sSeq (sSet 1 (eFrz (nLc (iSeqD (eSlice (lE (eVar 0)) oNone (oSome (eC (.int 63))))) (gNameD 2) (tYesD) (eAbs (eInt (eVar 2))) [2]))) (sRet (eNew (nLst (aCons (eVar 1) (aCons (eC (.int 0)) (aCons (eC (.int 0)) (aCons (eOp opAdd (eC (.int 1)) (eLen (lE (eVar 1)))) (aCons (eC (.int 0)) (aNil)))))))))
noncomputable def m__law_hand : Fn := fnD 1 3 b__law_hand
/-- _law_inserted (0 _law_row, 1 _law_key_here, 2 _law_at, 3 _law_one) -/
noncomputable def b__law_inserted : DS := sSeq (sSet 2 (eLen (lE (eFrz (nLc (iSeqD (eVar 0)) (gNameD 3) (tOfB (eCmp (fun _ => cmpLt) (eVar 3) (eVar 1))) (eVar 3) [3]))))) (sRet (eOp opAdd (eOp opAdd (eSlice (lE (eVar 0)) oNone (oSome (eVar 2))) (eFrz (nLst (aCons (eVar 1) (aNil))))) (eSlice (lE (eVar 0)) (oSome (eVar 2)) oNone)))
noncomputable def m__law_inserted : Fn := fnD 2 4 b__law_inserted
/-- _law_key (0 _law_hand_here, 1 _law_many, 2 _law_rank) -/
noncomputable def b__law_key : DS := sSeq (sSet 2 (eCall m__law_any (aCons (eVar 0) (aCons (eFrz (nLst (aCons (eC (.int 0)) (aCons (eC (.int 0)) (aCons (eC (.int 1)) (aCons (eC (.int 2)) (aCons (eUn opNeg (eC (.int 1))) (aCons (eOp (fun _ => opPow) (eC (.int 10)) (eC (.int 18))) (aCons (eUn opNeg (eOp (fun _ => opPow) (eC (.int 10)) (eC (.int 18)))) (aCons (eOp (fun _ => opSub) (eCall m__law_draw (aCons (eVar 0) (aCons (eC (.int 50)) (aNil)))) (eC (.int 25))) (aNil))))))))))) (aNil))))) (sRet (eTup (aCons (eVar 2) (aCons (eCall m__law_draw (aCons (eVar 0) (aCons (eVar 1) (aNil)))) (aNil)))))
noncomputable def m__law_key : Fn := fnD 2 3 b__law_key
/-- law (0 _law_script, 1 _law_hand_here, 2 _law_outputs, 3 _law_every, 4 _law_output, 5 _law_turn, 6 _law_ideal, 7 _law_rows, 8 _law_kind, 9 _law_key_here, 10 _law_rank, 11 _law_cell, 12 _law_at, 13 _law_one, 14 _law_row, 15 _law_alike, 16 _law_other, 17 _law_more) -/
noncomputable def b_law : DS := sSeq (sSet 1 (eCall m__law_hand (aCons (eVar 0) (aNil)))) (sSeq (sSet 2 (eCall m__law_any (aCons (eVar 1) (aCons (eFrz (nLst (aCons (eC (.int 1)) (aCons (eC (.int 2)) (aCons (eC (.int 5)) (aNil)))))) (aNil))))) (sSeq (sSet 3 (eNew (nLst (aCons (eTup (aCons (eMake "Ideal" m_Ideal_init (aCons (eVar 2) (aNil))) (aCons (eNew (nLc (iRange1 (eVar 2)) (gNameD 4) (tYesD) (eFrz (nLst (aNil))) [4])) (aNil)))) (aNil))))) (sSeq (sFor (iRange1 (eOp opAdd (eC (.int 10)) (eCall m__law_draw (aCons (eVar 1) (aCons (eC (.int 40)) (aNil)))))) (gNameD 5) (sSeq (sAsg (eCall m__law_any (aCons (eVar 1) (aCons (eVar 3) (aNil)))) (gTupD 2 (gsCons (gNameD 6) (gsCons (gNameD 7) (gsNil))))) (sSeq (sPar 4 8 (eCall m__law_draw (aCons (eVar 1) (aCons (eVar 2) (aNil)))) (eCall m__law_draw (aCons (eVar 1) (aCons (eC (.int 6)) (aNil))))) (sIf (tAndD (tOfB (eCmp cmpEq (eVar 8) (eC (.int 0)))) (tOfB (eCmp (fun _ => cmpI iLt) (eLen (lE (eVar 3))) (eC (.int 8))))) (sDrop (eAppR (eVar 3) (eTup (aCons (eMeth "Ideal" "copy" m_Ideal_copy (eVar 6) aNil) (aCons (eNew (nLstOf (lE (eVar 7)))) (aNil)))))) (sIf (tOfB (eCmp (fun _ => cmpI iLt) (eVar 8) (eC (.int 4)))) (sSeq (sSet 9 (eCall m__law_key (aCons (eVar 1) (aCons (eC (.int 40)) (aNil))))) (sIf (tOfB (eIn true (eIx (lE (eVar 9)) (eC (.int 1))) (lE (eFrz (nLc (iSeqD (eIx (lE (eVar 7)) (eVar 4))) (gTupD 2 (gsCons (gNameD 10) (gsCons (gNameD 11) (gsNil)))) (tYesD) (eVar 11) [10, 11]))))) (sSeq (sDrop (eMeth "Ideal" "push" m_Ideal_push (eVar 6) (aCons (eVar 4) (aCons (eVar 9) (aNil))))) (sPutR (eVar 7) (eVar 4) (eCall m__law_inserted (aCons (eIx (lE (eVar 7)) (eVar 4)) (aCons (eVar 9) (aNil)))))) (sNext))) (sIf (tOfB (eCmp (fun _ => cmpI iGt) (eLen (lE (eIx (lE (eVar 7)) (eVar 4)))) (eC (.int 0)))) (sSeq (sIf (tOfB (eCmp cmpNe (eMeth "Ideal" "let_go" m_Ideal_let_go (eVar 6) (aCons (eVar 4) (aNil))) (eIx (lE (eIx (lE (eVar 7)) (eVar 4))) (eC (.int 0))))) (sRet (eC (.bl false))) (sNext)) (sPutR (eVar 7) (eVar 4) (eSlice (lE (eIx (lE (eVar 7)) (eVar 4))) (oSome (eC (.int 1))) oNone))) (sNext))))))) (sSeq (sFor (iEnumD (eVar 3)) (gTupD 2 (gsCons (gNameD 12) (gsCons (gTupD 2 (gsCons (gNameD 13) (gsCons (gNameD 7) (gsNil)))) (gsNil)))) (sSeq (sIf (tOfB (eCmp cmpNe (eFrz (nLc (iRange1 (eVar 2)) (gNameD 4) (tYesD) (eMeth "Ideal" "held" m_Ideal_held (eVar 13) (aCons (eVar 4) (aNil))) [4])) (eFrz (nLc (iSeqD (eVar 7)) (gNameD 14) (tYesD) (eTupOf (lE (eVar 14))) [14])))) (sRet (eC (.bl false))) (sNext)) (sSeq (sSet 15 (eFrz (nLc (iSeqD (eVar 3)) (gTupD 2 (gsCons (gNameD 16) (gsCons (gNameD 17) (gsNil)))) (tYesD) (eCmp (cmpSame "Ideal") (eVar 13) (eVar 16)) [16, 17]))) (sIf (tOrD (tOfB (eCmp cmpNe (eCount (lE (eVar 15)) (eC (.bl true))) (eC (.int 1)))) (tOfB (eCmp cmpNe (eIndex (lE (eVar 15)) (eC (.bl true))) (eVar 12)))) (sRet (eC (.bl false))) (sNext))))) (sRet (eC (.bl true)))))))
noncomputable def m_law : Fn := fnD 1 18 b_law
end L07

set_option Elab.async false
set_option linter.all false
set_option maxRecDepth 100000
set_option maxHeartbeats 4000000
set_option pp.maxSteps 400
namespace L07
open PySem PySem.Spec PyProof.Rows L2 Dn
def top (i : Nat) : Stmt := PySem.Challenge.pw_exactbeats_k07_whole_copies_of_ideal_swi.main.body.getD i (.Pass ⟨0, 0, 0, 0⟩)
def fn0 : He.DefD := ⟨("is_integer", none), "is_integer", "is_integer", defArgs (top 2), defBody (top 2), defScope (top 2), [], []⟩
def fn1 : He.DefD := ⟨("is_within", none), "is_within", "is_within", defArgs (top 3), defBody (top 3), defScope (top 3), [], []⟩
def fn2 : He.DefD := ⟨("check_lines", none), "check_lines", "check_lines", defArgs (top 14), defBody (top 14), defScope (top 14), [], []⟩
def fn3 : He.DefD := ⟨("Ideal", some "__init__"), "__init__", "Ideal.__init__", defArgs (inClass (top 19) 0), defBody (inClass (top 19) 0), defScope (inClass (top 19) 0), [], []⟩
def fn4 : He.DefD := ⟨("Ideal", some "copy"), "copy", "Ideal.copy", defArgs (inClass (top 19) 7), defBody (inClass (top 19) 7), defScope (inClass (top 19) 7), [], []⟩
def fn5 : He.DefD := ⟨("Ideal", some "check_output"), "check_output", "Ideal.check_output", defArgs (inClass (top 19) 1), defBody (inClass (top 19) 1), defScope (inClass (top 19) 1), [], []⟩
def fn6 : He.DefD := ⟨("Ideal", some "held"), "held", "Ideal.held", defArgs (inClass (top 19) 5), defBody (inClass (top 19) 5), defScope (inClass (top 19) 5), [], []⟩
def fn7 : He.DefD := ⟨("Ideal", some "let_go"), "let_go", "Ideal.let_go", defArgs (inClass (top 19) 4), defBody (inClass (top 19) 4), defScope (inClass (top 19) 4), [], []⟩
def fn8 : He.DefD := ⟨("is_pair", none), "is_pair", "is_pair", defArgs (top 4), defBody (top 4), defScope (top 4), [], []⟩
def fn9 : He.DefD := ⟨("is_key", none), "is_key", "is_key", defArgs (top 17), defBody (top 17), defScope (top 17), [], []⟩
def fn10 : He.DefD := ⟨("check_key", none), "check_key", "check_key", defArgs (top 18), defBody (top 18), defScope (top 18), [], []⟩
def fn11 : He.DefD := ⟨("Ideal", some "push"), "push", "Ideal.push", defArgs (inClass (top 19) 2), defBody (inClass (top 19) 2), defScope (inClass (top 19) 2), [], []⟩
def fn12 : He.DefD := ⟨("_law_draw", none), "_law_draw", "_law_draw", defArgs (top 22), defBody (top 22), defScope (top 22), [], []⟩
def fn13 : He.DefD := ⟨("_law_any", none), "_law_any", "_law_any", defArgs (top 23), defBody (top 23), defScope (top 23), [], []⟩
def fn14 : He.DefD := ⟨("_law_hand", none), "_law_hand", "_law_hand", defArgs (top 21), defBody (top 21), defScope (top 21), [], []⟩
def fn15 : He.DefD := ⟨("_law_inserted", none), "_law_inserted", "_law_inserted", defArgs (top 25), defBody (top 25), defScope (top 25), [], []⟩
def fn16 : He.DefD := ⟨("_law_key", none), "_law_key", "_law_key", defArgs (top 24), defBody (top 24), defScope (top 24), [], []⟩
def fn17 : He.DefD := ⟨("law", none), "law", "law", defArgs (top 26), defBody (top 26), defScope (top 26), [], []⟩
def fn : List He.DefD := [fn0, fn1, fn2, fn3, fn4, fn5, fn6, fn7, fn8, fn9, fn10, fn11, fn12, fn13, fn14, fn15, fn16, fn17]
def fa : List He.Fa := ([.glo "Ideal", .glo "_law_any", .glo "_law_draw", .glo "_law_hand", .glo "_law_inserted", .glo "_law_key", .glo "check_key", .glo "check_lines", .glo "is_integer", .glo "is_key", .glo "is_pair", .glo "is_within", .free "abs", .free "bool", .free "enumerate", .free "int", .free "isinstance", .free "len", .free "list", .free "range", .free "sorted", .free "tuple", .int "MOST_LINES" 12, .int "MOST_RANK" 1000000000000000000, .cls "Ideal", .meth "Ideal" "check_output", .meth "Ideal" "copy", .meth "Ideal" "held", .noat "Ideal" "kept_keys", .meth "Ideal" "let_go"] : List He.Fa) ++ ([.meth "Ideal" "push", .mkr "Ideal", .glo "law"] : List He.Fa)
def fx : List Fx := [.noeq "Ideal"]
/-- what is known of the text behind the top -/
structure Fc (K : PySem.W.Frag) (mg : Str → Option Value) : Prop where
  g_Ideal : mg "Ideal" = some (.ref (He.ga K "Ideal"))
  g__law_any : mg "_law_any" = some (.ref (He.ga K "_law_any"))
  g__law_draw : mg "_law_draw" = some (.ref (He.ga K "_law_draw"))
  g__law_hand : mg "_law_hand" = some (.ref (He.ga K "_law_hand"))
  g__law_inserted : mg "_law_inserted" = some (.ref (He.ga K "_law_inserted"))
  g__law_key : mg "_law_key" = some (.ref (He.ga K "_law_key"))
  g_check_key : mg "check_key" = some (.ref (He.ga K "check_key"))
  g_check_lines : mg "check_lines" = some (.ref (He.ga K "check_lines"))
  g_is_integer : mg "is_integer" = some (.ref (He.ga K "is_integer"))
  g_is_key : mg "is_key" = some (.ref (He.ga K "is_key"))
  g_is_pair : mg "is_pair" = some (.ref (He.ga K "is_pair"))
  g_is_within : mg "is_within" = some (.ref (He.ga K "is_within"))
  b_abs : mg "abs" = none
  b_bool : mg "bool" = none
  b_enumerate : mg "enumerate" = none
  b_int : mg "int" = none
  b_isinstance : mg "isinstance" = none
  b_len : mg "len" = none
  b_list : mg "list" = none
  b_range : mg "range" = none
  b_sorted : mg "sorted" = none
  b_tuple : mg "tuple" = none
  j_MOST_LINES : ∃ t, mg "MOST_LINES" = some (.int 12 t)
  j_MOST_RANK : ∃ t, mg "MOST_RANK" = some (.int 1000000000000000000 t)
  c_Ideal : Cls K (He.ga K "Ideal")
  m_Ideal_check_output : Meth K (He.ga K "Ideal") "check_output" (He.ma K (He.ga K "Ideal") "check_output")
  m_Ideal_copy : Meth K (He.ga K "Ideal") "copy" (He.ma K (He.ga K "Ideal") "copy")
  m_Ideal_held : Meth K (He.ga K "Ideal") "held" (He.ma K (He.ga K "Ideal") "held")
  n_Ideal_kept_keys : NoAttr K (He.ga K "Ideal") "kept_keys"
  m_Ideal_let_go : Meth K (He.ga K "Ideal") "let_go" (He.ma K (He.ga K "Ideal") "let_go")
  m_Ideal_push : Meth K (He.ga K "Ideal") "push" (He.ma K (He.ga K "Ideal") "push")
  k_Ideal : Mk K (He.ga K "Ideal") (He.ma K (He.ga K "Ideal") "__init__")
  q_Ideal : NoEq K (He.ga K "Ideal")
  f_is_integer : ∃ fd, FunD K "is_integer" "is_integer" (defArgs (top 2)) (defBody (top 2)) (defScope (top 2)) [] [] (He.fAd K ("is_integer", none)) fd
  f_is_within : ∃ fd, FunD K "is_within" "is_within" (defArgs (top 3)) (defBody (top 3)) (defScope (top 3)) [] [] (He.fAd K ("is_within", none)) fd
  f_check_lines : ∃ fd, FunD K "check_lines" "check_lines" (defArgs (top 14)) (defBody (top 14)) (defScope (top 14)) [] [] (He.fAd K ("check_lines", none)) fd
  f_Ideal_init : ∃ fd, FunD K "__init__" "Ideal.__init__" (defArgs (inClass (top 19) 0)) (defBody (inClass (top 19) 0)) (defScope (inClass (top 19) 0)) [] [] (He.fAd K ("Ideal", some "__init__")) fd
  f_Ideal_copy : ∃ fd, FunD K "copy" "Ideal.copy" (defArgs (inClass (top 19) 7)) (defBody (inClass (top 19) 7)) (defScope (inClass (top 19) 7)) [] [] (He.fAd K ("Ideal", some "copy")) fd
  f_Ideal_check_output : ∃ fd, FunD K "check_output" "Ideal.check_output" (defArgs (inClass (top 19) 1)) (defBody (inClass (top 19) 1)) (defScope (inClass (top 19) 1)) [] [] (He.fAd K ("Ideal", some "check_output")) fd
  f_Ideal_held : ∃ fd, FunD K "held" "Ideal.held" (defArgs (inClass (top 19) 5)) (defBody (inClass (top 19) 5)) (defScope (inClass (top 19) 5)) [] [] (He.fAd K ("Ideal", some "held")) fd
  f_Ideal_let_go : ∃ fd, FunD K "let_go" "Ideal.let_go" (defArgs (inClass (top 19) 4)) (defBody (inClass (top 19) 4)) (defScope (inClass (top 19) 4)) [] [] (He.fAd K ("Ideal", some "let_go")) fd
  f_is_pair : ∃ fd, FunD K "is_pair" "is_pair" (defArgs (top 4)) (defBody (top 4)) (defScope (top 4)) [] [] (He.fAd K ("is_pair", none)) fd
  f_is_key : ∃ fd, FunD K "is_key" "is_key" (defArgs (top 17)) (defBody (top 17)) (defScope (top 17)) [] [] (He.fAd K ("is_key", none)) fd
  f_check_key : ∃ fd, FunD K "check_key" "check_key" (defArgs (top 18)) (defBody (top 18)) (defScope (top 18)) [] [] (He.fAd K ("check_key", none)) fd
  f_Ideal_push : ∃ fd, FunD K "push" "Ideal.push" (defArgs (inClass (top 19) 2)) (defBody (inClass (top 19) 2)) (defScope (inClass (top 19) 2)) [] [] (He.fAd K ("Ideal", some "push")) fd
  f__law_draw : ∃ fd, FunD K "_law_draw" "_law_draw" (defArgs (top 22)) (defBody (top 22)) (defScope (top 22)) [] [] (He.fAd K ("_law_draw", none)) fd
  f__law_any : ∃ fd, FunD K "_law_any" "_law_any" (defArgs (top 23)) (defBody (top 23)) (defScope (top 23)) [] [] (He.fAd K ("_law_any", none)) fd
  f__law_hand : ∃ fd, FunD K "_law_hand" "_law_hand" (defArgs (top 21)) (defBody (top 21)) (defScope (top 21)) [] [] (He.fAd K ("_law_hand", none)) fd
  f__law_inserted : ∃ fd, FunD K "_law_inserted" "_law_inserted" (defArgs (top 25)) (defBody (top 25)) (defScope (top 25)) [] [] (He.fAd K ("_law_inserted", none)) fd
  f__law_key : ∃ fd, FunD K "_law_key" "_law_key" (defArgs (top 24)) (defBody (top 24)) (defScope (top 24)) [] [] (He.fAd K ("_law_key", none)) fd
  f_law : ∃ fd, FunD K "law" "law" (defArgs (top 26)) (defBody (top 26)) (defScope (top 26)) [] [] (He.fAd K ("law", none)) fd
theorem fc_of {K : PySem.W.Frag} {h : Heap} {mg : Str → Option Value} (X : K.In h) (G : h.Ns mainGlobals mg) (c : SaysX fx fa fn K) : Fc K mg :=
  ⟨He.glo_ok X G (c.fact 0 (f := .glo "Ideal") rfl),
   He.glo_ok X G (c.fact 1 (f := .glo "_law_any") rfl),
   He.glo_ok X G (c.fact 2 (f := .glo "_law_draw") rfl),
   He.glo_ok X G (c.fact 3 (f := .glo "_law_hand") rfl),
   He.glo_ok X G (c.fact 4 (f := .glo "_law_inserted") rfl),
   He.glo_ok X G (c.fact 5 (f := .glo "_law_key") rfl),
   He.glo_ok X G (c.fact 6 (f := .glo "check_key") rfl),
   He.glo_ok X G (c.fact 7 (f := .glo "check_lines") rfl),
   He.glo_ok X G (c.fact 8 (f := .glo "is_integer") rfl),
   He.glo_ok X G (c.fact 9 (f := .glo "is_key") rfl),
   He.glo_ok X G (c.fact 10 (f := .glo "is_pair") rfl),
   He.glo_ok X G (c.fact 11 (f := .glo "is_within") rfl),
   He.free_ok X G (c.fact 12 (f := .free "abs") rfl),
   He.free_ok X G (c.fact 13 (f := .free "bool") rfl),
   He.free_ok X G (c.fact 14 (f := .free "enumerate") rfl),
   He.free_ok X G (c.fact 15 (f := .free "int") rfl),
   He.free_ok X G (c.fact 16 (f := .free "isinstance") rfl),
   He.free_ok X G (c.fact 17 (f := .free "len") rfl),
   He.free_ok X G (c.fact 18 (f := .free "list") rfl),
   He.free_ok X G (c.fact 19 (f := .free "range") rfl),
   He.free_ok X G (c.fact 20 (f := .free "sorted") rfl),
   He.free_ok X G (c.fact 21 (f := .free "tuple") rfl),
   He.int_ok X G (c.fact 22 (f := .int "MOST_LINES" 12) rfl),
   He.int_ok X G (c.fact 23 (f := .int "MOST_RANK" 1000000000000000000) rfl),
   He.cls_ok (c.fact 24 (f := .cls "Ideal") rfl),
   He.meth_ok (c.fact 25 (f := .meth "Ideal" "check_output") rfl),
   He.meth_ok (c.fact 26 (f := .meth "Ideal" "copy") rfl),
   He.meth_ok (c.fact 27 (f := .meth "Ideal" "held") rfl),
   He.noat_ok (c.fact 28 (f := .noat "Ideal" "kept_keys") rfl),
   He.meth_ok (c.fact 29 (f := .meth "Ideal" "let_go") rfl),
   He.meth_ok (c.fact 30 (f := .meth "Ideal" "push") rfl),
   He.mkr_ok (c.fact 31 (f := .mkr "Ideal") rfl),
   noeq_ok (c.more 0 (f := .noeq "Ideal") rfl),
   c.def_ 0 (d := fn0) rfl,
   c.def_ 1 (d := fn1) rfl,
   c.def_ 2 (d := fn2) rfl,
   c.def_ 3 (d := fn3) rfl,
   c.def_ 4 (d := fn4) rfl,
   c.def_ 5 (d := fn5) rfl,
   c.def_ 6 (d := fn6) rfl,
   c.def_ 7 (d := fn7) rfl,
   c.def_ 8 (d := fn8) rfl,
   c.def_ 9 (d := fn9) rfl,
   c.def_ 10 (d := fn10) rfl,
   c.def_ 11 (d := fn11) rfl,
   c.def_ 12 (d := fn12) rfl,
   c.def_ 13 (d := fn13) rfl,
   c.def_ 14 (d := fn14) rfl,
   c.def_ 15 (d := fn15) rfl,
   c.def_ 16 (d := fn16) rfl,
   c.def_ 17 (d := fn17) rfl⟩
section
variable {P : Program} {w : World} {K : PySem.W.Frag} {mg : Str → Option Value} {base : Heap}
theorem sc_is_integer : FnScope ["thing"] (["thing"] : List Str) (defScope (top 2)) := ⟨rfl, rfl, rfl, by decide +kernel, rfl, by decide +kernel, by decide +kernel⟩
theorem ok_is_integer (fc : Fc K mg) : ∃ fd, FunD K "is_integer" "is_integer" (defArgs (top 2)) (defBody (top 2)) (defScope (top 2)) [] [] (He.fAd K ("is_integer", none)) fd ∧ FnOk P w K mg base CX0 1 (He.fAd K ("is_integer", none)) fd (["thing"] : List Str) (spN ⟨K, mg⟩ m_is_integer) ∧ Binds K fd (["thing"] : List Str) [] := by
  obtain ⟨fd, F⟩ := fc.f_is_integer
  have nd : (["thing"] : List Str).Nodup := sc_is_integer.nd
  refine ⟨fd, F, fn_ok (k := 0) F sc_is_integer rfl rfl (fun cdv A outer s H E M0 hr => ?_), F.bindsN fun _ _ _ _ _ _ us hl => match us, hl with | [_], _ => rfl⟩
  exact (ss_one (ss_ret (se_and (se_isTy (n := "int") (by decide) (pe_callB call_isi rfl fc.b_isinstance boot_isinstance (pa_cons (sv 0) (pa_cons (pe_bltn (v := .ty "int") rfl fc.b_int boot_int rfl) pa_nil)))) (se_one (se_not (se_isTy (n := "bool") (by decide) (pe_callB call_isi rfl fc.b_isinstance boot_isinstance (pa_cons (sv 0) (pa_cons (pe_bltn (v := .ty "bool") rfl fc.b_bool boot_bool rfl) pa_nil)))))))))
theorem sc_is_within : FnScope ["thing", "least", "most"] (["thing", "least", "most"] : List Str) (defScope (top 3)) := ⟨rfl, rfl, rfl, by decide +kernel, rfl, by decide +kernel, by decide +kernel⟩
theorem ok_is_within (fc : Fc K mg) : ∃ fd, FunD K "is_within" "is_within" (defArgs (top 3)) (defBody (top 3)) (defScope (top 3)) [] [] (He.fAd K ("is_within", none)) fd ∧ FnOk P w K mg base CX0 2 (He.fAd K ("is_within", none)) fd (["thing", "least", "most"] : List Str) (spN ⟨K, mg⟩ m_is_within) ∧ Binds K fd (["thing", "least", "most"] : List Str) [] := by
  obtain ⟨fd_is_integer, F_is_integer, O_is_integer, B_is_integer⟩ := ok_is_integer (P := P) (w := w) (base := base) fc
  obtain ⟨fd, F⟩ := fc.f_is_within
  have nd : (["thing", "least", "most"] : List Str).Nodup := sc_is_within.nd
  refine ⟨fd, F, fn_ok (k := 1) F sc_is_within rfl rfl (fun cdv A outer s H E M0 hr => ?_), F.bindsN fun _ _ _ _ _ _ us hl => match us, hl with | [_, _, _], _ => rfl⟩
  exact (ss_one (ss_ret (se_and (se_call (pe_call (O_is_integer.mono (by decide)) hr rfl fc.g_is_integer F_is_integer.kp B_is_integer .nil pass0 (sa_cons (sv 0) sa_nil))) (se_one (se_chain (opb_int iLe) (opb_int iLe) (pe_chain op_le op_le (sv 1) (sv 0) (sv 2)))))))
theorem sc_check_lines : FnScope ["thing"] (["thing"] : List Str) (defScope (top 14)) := ⟨rfl, rfl, rfl, by decide +kernel, rfl, by decide +kernel, by decide +kernel⟩
theorem ok_check_lines (fc : Fc K mg) : ∃ fd, FunD K "check_lines" "check_lines" (defArgs (top 14)) (defBody (top 14)) (defScope (top 14)) [] [] (He.fAd K ("check_lines", none)) fd ∧ FnOk P w K mg base CX0 3 (He.fAd K ("check_lines", none)) fd (["thing"] : List Str) (spN ⟨K, mg⟩ m_check_lines) ∧ Binds K fd (["thing"] : List Str) [] := by
  obtain ⟨fd_is_within, F_is_within, O_is_within, B_is_within⟩ := ok_is_within (P := P) (w := w) (base := base) fc
  obtain ⟨t_MOST_LINES, i_MOST_LINES⟩ := fc.j_MOST_LINES
  obtain ⟨fd, F⟩ := fc.f_check_lines
  have nd : (["thing"] : List Str).Nodup := sc_check_lines.nd
  refine ⟨fd, F, fn_ok (k := 2) F sc_check_lines rfl rfl (fun cdv A outer s H E M0 hr => ?_), F.bindsN fun _ _ _ _ _ _ us hl => match us, hl with | [_], _ => rfl⟩
  exact (ss_one (ss_if (st_not (st_val (se_call (pe_call (O_is_within.mono (by decide)) hr rfl fc.g_is_within F_is_within.kp B_is_within .nil pass0 (sa_cons (sv 0) (sa_cons se_int (sa_cons (se_gint rfl i_MOST_LINES) sa_nil))))) (fun _ => rfl))) (ss_one ss_bad) ss_nil))
theorem sc_Ideal_init : FnScope ["self", "outputs", "output"] (["self", "outputs"] : List Str) (defScope (inClass (top 19) 0)) := ⟨rfl, rfl, rfl, by decide +kernel, rfl, by decide +kernel, by decide +kernel⟩
theorem ok_Ideal_init (fc : Fc K mg) : ∃ fd, FunD K "__init__" "Ideal.__init__" (defArgs (inClass (top 19) 0)) (defBody (inClass (top 19) 0)) (defScope (inClass (top 19) 0)) [] [] (He.fAd K ("Ideal", some "__init__")) fd ∧ FnOk P w K mg base CX0 4 (He.fAd K ("Ideal", some "__init__")) fd (["self", "outputs"] : List Str) (spN ⟨K, mg⟩ m_Ideal_init) ∧ Binds K fd (["self", "outputs"] : List Str) [] := by
  obtain ⟨fd_check_lines, F_check_lines, O_check_lines, B_check_lines⟩ := ok_check_lines (P := P) (w := w) (base := base) fc
  obtain ⟨fd, F⟩ := fc.f_Ideal_init
  have nd : (["self", "outputs", "output"] : List Str).Nodup := sc_Ideal_init.nd
  refine ⟨fd, F, fn_ok (k := 3) F sc_Ideal_init rfl rfl (fun cdv A outer s H E M0 hr => ?_), F.bindsN fun _ _ _ _ _ _ us hl => match us, hl with | [_, _], _ => rfl⟩
  exact (ss_cons (ss_drop (se_call (pe_call (O_check_lines.mono (by decide)) hr rfl fc.g_check_lines F_check_lines.kp B_check_lines .nil pass0 (sa_cons (sv 1) sa_nil))))
    (ss_one (ss_fld (cs := ["Ideal"]) (by intro c hc; simp only [List.mem_cons, List.not_mem_nil, or_false] at hc; subst hc; exact fld_of fc.g_Ideal fc.c_Ideal fc.n_Ideal_kept_keys) (ps_fld (sv 0) (se_new (sn_lcT g_name (gs_in rfl) (pe_lc (own := [("output", 2)]) rfl nd (si_range1 (pi_range1 rfl fc.b_range (pa_cons (sv 1) pa_nil))) (blkOk_by (N := ["self", "outputs", "output"]) (sc := defScope (inClass (top 19) 0)) (by decide +kernel)) (fun _ _ _ _ _ => (pg_name (i := 2) nd rfl (by first | exact Or.inl rfl | exact Or.inr rfl))) (fun _ _ _ _ _ => pts_y) (fun _ _ _ _ _ => (se_new (sn_lst sa_nil)))))) rfl))))
theorem sc_Ideal_copy : FnScope ["self", "found", "keys"] (["self"] : List Str) (defScope (inClass (top 19) 7)) := ⟨rfl, rfl, rfl, by decide +kernel, rfl, by decide +kernel, by decide +kernel⟩
theorem ok_Ideal_copy (fc : Fc K mg) : ∃ fd, FunD K "copy" "Ideal.copy" (defArgs (inClass (top 19) 7)) (defBody (inClass (top 19) 7)) (defScope (inClass (top 19) 7)) [] [] (He.fAd K ("Ideal", some "copy")) fd ∧ FnOk P w K mg base CX0 6 (He.fAd K ("Ideal", some "copy")) fd (["self"] : List Str) (spN ⟨K, mg⟩ m_Ideal_copy) ∧ Binds K fd (["self"] : List Str) [] := by
  obtain ⟨fd_Ideal_init, F_Ideal_init, O_Ideal_init, B_Ideal_init⟩ := ok_Ideal_init (P := P) (w := w) (base := base) fc
  obtain ⟨fd, F⟩ := fc.f_Ideal_copy
  have nd : (["self", "found", "keys"] : List Str).Nodup := sc_Ideal_copy.nd
  refine ⟨fd, F, fn_ok (k := 5) F sc_Ideal_copy rfl rfl (fun cdv A outer s H E M0 hr => ?_), F.bindsN fun _ _ _ _ _ _ us hl => match us, hl with | [_], _ => rfl⟩
  exact (ss_cons (ss_set (i := 1) nd rfl (by first | exact Or.inl rfl | exact Or.inr rfl) (se_make fc.g_Ideal (pe_make fc.k_Ideal O_Ideal_init (hr.mono (by decide)) rfl fc.g_Ideal B_Ideal_init .nil pass0 (sa_cons (se_l1 l1_len (pe_callB call_len_seq rfl fc.b_len boot_len (pa_cons (sl_e (se_fld (cs := ["Ideal"]) (by intro c hc; simp only [List.mem_cons, List.not_mem_nil, or_false] at hc; subst hc; exact fld_of fc.g_Ideal fc.c_Ideal fc.n_Ideal_kept_keys) (sv 0) rfl)) pa_nil))) sa_nil))) (.inl rfl))
    (ss_cons (ss_fld (cs := ["Ideal"]) (by intro c hc; simp only [List.mem_cons, List.not_mem_nil, or_false] at hc; subst hc; exact fld_of fc.g_Ideal fc.c_Ideal fc.n_Ideal_kept_keys) (ps_fld (sv 1) (se_new (sn_lcT g_name (gs_in rfl) (pe_lc (own := [("keys", 2)]) rfl nd (si_seq (se_fld (cs := ["Ideal"]) (by intro c hc; simp only [List.mem_cons, List.not_mem_nil, or_false] at hc; subst hc; exact fld_of fc.g_Ideal fc.c_Ideal fc.n_Ideal_kept_keys) (sv 0) rfl)) (blkOk_by (N := ["self", "found", "keys"]) (sc := defScope (inClass (top 19) 7)) (by decide +kernel)) (fun _ _ _ _ _ => (pg_name (i := 2) nd rfl (by first | exact Or.inl rfl | exact Or.inr rfl))) (fun _ _ _ _ _ => pts_y) (fun _ _ _ _ _ => (se_new (sn_lstOf (pe_callTy call_list_of rfl fc.b_list boot_list (pa_cons (sl_e (sv 2)) pa_nil)))))))) rfl))
    (ss_one (ss_ret (sv 1)))))
theorem sc_Ideal_check_output : FnScope ["self", "thing"] (["self", "thing"] : List Str) (defScope (inClass (top 19) 1)) := ⟨rfl, rfl, rfl, by decide +kernel, rfl, by decide +kernel, by decide +kernel⟩
theorem ok_Ideal_check_output (fc : Fc K mg) : ∃ fd, FunD K "check_output" "Ideal.check_output" (defArgs (inClass (top 19) 1)) (defBody (inClass (top 19) 1)) (defScope (inClass (top 19) 1)) [] [] (He.fAd K ("Ideal", some "check_output")) fd ∧ FnOk P w K mg base CX0 3 (He.fAd K ("Ideal", some "check_output")) fd (["self", "thing"] : List Str) (spN ⟨K, mg⟩ m_Ideal_check_output) ∧ Binds K fd (["self", "thing"] : List Str) [] := by
  obtain ⟨fd_is_within, F_is_within, O_is_within, B_is_within⟩ := ok_is_within (P := P) (w := w) (base := base) fc
  obtain ⟨fd, F⟩ := fc.f_Ideal_check_output
  have nd : (["self", "thing"] : List Str).Nodup := sc_Ideal_check_output.nd
  refine ⟨fd, F, fn_ok (k := 2) F sc_Ideal_check_output rfl rfl (fun cdv A outer s H E M0 hr => ?_), F.bindsN fun _ _ _ _ _ _ us hl => match us, hl with | [_, _], _ => rfl⟩
  exact (ss_one (ss_if (st_not (st_val (se_call (pe_call (O_is_within.mono (by decide)) hr rfl fc.g_is_within F_is_within.kp B_is_within .nil pass0 (sa_cons (sv 1) (sa_cons se_int (sa_cons (se_op op_sub ops_sub (se_l1 l1_len (pe_callB call_len_seq rfl fc.b_len boot_len (pa_cons (sl_e (se_fld (cs := ["Ideal"]) (by intro c hc; simp only [List.mem_cons, List.not_mem_nil, or_false] at hc; subst hc; exact fld_of fc.g_Ideal fc.c_Ideal fc.n_Ideal_kept_keys) (sv 0) rfl)) pa_nil))) se_int) sa_nil))))) (fun _ => rfl))) (ss_one ss_bad) ss_nil))
theorem sc_Ideal_held : FnScope ["self", "output"] (["self", "output"] : List Str) (defScope (inClass (top 19) 5)) := ⟨rfl, rfl, rfl, by decide +kernel, rfl, by decide +kernel, by decide +kernel⟩
theorem ok_Ideal_held (fc : Fc K mg) : ∃ fd, FunD K "held" "Ideal.held" (defArgs (inClass (top 19) 5)) (defBody (inClass (top 19) 5)) (defScope (inClass (top 19) 5)) [] [] (He.fAd K ("Ideal", some "held")) fd ∧ FnOk P w K mg base CX0 4 (He.fAd K ("Ideal", some "held")) fd (["self", "output"] : List Str) (spN ⟨K, mg⟩ m_Ideal_held) ∧ Binds K fd (["self", "output"] : List Str) [] := by
  obtain ⟨fd_Ideal_check_output, F_Ideal_check_output, O_Ideal_check_output, B_Ideal_check_output⟩ := ok_Ideal_check_output (P := P) (w := w) (base := base) fc
  obtain ⟨fd, F⟩ := fc.f_Ideal_held
  have nd : (["self", "output"] : List Str).Nodup := sc_Ideal_held.nd
  refine ⟨fd, F, fn_ok (k := 3) F sc_Ideal_held rfl rfl (fun cdv A outer s H E M0 hr => ?_), F.bindsN fun _ _ _ _ _ _ us hl => match us, hl with | [_, _], _ => rfl⟩
  exact (ss_cons (ss_drop (se_meth fc.g_Ideal (pe_meth (sv 0) fc.c_Ideal fc.m_Ideal_check_output (O_Ideal_check_output.mono (by decide)) hr B_Ideal_check_output .nil pass0 (sa_cons (sv 1) sa_nil))))
    (ss_one (ss_ret (se_tupOf (pe_callTy call_tuple_of rfl fc.b_tuple boot_tuple (pa_cons (sl_e (se_ix (sl_e (se_fld (cs := ["Ideal"]) (by intro c hc; simp only [List.mem_cons, List.not_mem_nil, or_false] at hc; subst hc; exact fld_of fc.g_Ideal fc.c_Ideal fc.n_Ideal_kept_keys) (sv 0) rfl)) (sv 1) (fun _ _ => rfl))) pa_nil))))))
theorem sc_Ideal_let_go : FnScope ["self", "output"] (["self", "output"] : List Str) (defScope (inClass (top 19) 4)) := ⟨rfl, rfl, rfl, by decide +kernel, rfl, by decide +kernel, by decide +kernel⟩
theorem ok_Ideal_let_go (fc : Fc K mg) : ∃ fd, FunD K "let_go" "Ideal.let_go" (defArgs (inClass (top 19) 4)) (defBody (inClass (top 19) 4)) (defScope (inClass (top 19) 4)) [] [] (He.fAd K ("Ideal", some "let_go")) fd ∧ FnOk P w K mg base CX0 4 (He.fAd K ("Ideal", some "let_go")) fd (["self", "output"] : List Str) (spN ⟨K, mg⟩ m_Ideal_let_go) ∧ Binds K fd (["self", "output"] : List Str) [] := by
  obtain ⟨fd_Ideal_check_output, F_Ideal_check_output, O_Ideal_check_output, B_Ideal_check_output⟩ := ok_Ideal_check_output (P := P) (w := w) (base := base) fc
  obtain ⟨fd, F⟩ := fc.f_Ideal_let_go
  have nd : (["self", "output"] : List Str).Nodup := sc_Ideal_let_go.nd
  refine ⟨fd, F, fn_ok (k := 3) F sc_Ideal_let_go rfl rfl (fun cdv A outer s H E M0 hr => ?_), F.bindsN fun _ _ _ _ _ _ us hl => match us, hl with | [_, _], _ => rfl⟩
  exact (ss_cons (ss_drop (se_meth fc.g_Ideal (pe_meth (sv 0) fc.c_Ideal fc.m_Ideal_check_output (O_Ideal_check_output.mono (by decide)) hr B_Ideal_check_output .nil pass0 (sa_cons (sv 1) sa_nil))))
    (ss_cons (ss_if (st_cmp (op_eqD (hu64 hr)) opb_eq (se_l1 l1_len (pe_callB call_len_seq rfl fc.b_len boot_len (pa_cons (sl_e (se_ix (sl_e (se_fld (cs := ["Ideal"]) (by intro c hc; simp only [List.mem_cons, List.not_mem_nil, or_false] at hc; subst hc; exact fld_of fc.g_Ideal fc.c_Ideal fc.n_Ideal_kept_keys) (sv 0) rfl)) (sv 1) (fun _ _ => rfl))) pa_nil))) se_int (nomark _)) (ss_one ss_bad) ss_nil)
    (ss_one (ss_ret (se_popR (pe_bm PySem.F.plainAttrs_list PySem.F.slot_list_pop PySem.F.type_list_pop mt_popAtB (se_ix (sl_e (se_fld (cs := ["Ideal"]) (by intro c hc; simp only [List.mem_cons, List.not_mem_nil, or_false] at hc; subst hc; exact fld_of fc.g_Ideal fc.c_Ideal fc.n_Ideal_kept_keys) (sv 0) rfl)) (sv 1) (fun _ _ => rfl)) (pa_cons se_int pa_nil)))))))
theorem sc_is_pair : FnScope ["thing"] (["thing"] : List Str) (defScope (top 4)) := ⟨rfl, rfl, rfl, by decide +kernel, rfl, by decide +kernel, by decide +kernel⟩
theorem ok_is_pair (fc : Fc K mg) : ∃ fd, FunD K "is_pair" "is_pair" (defArgs (top 4)) (defBody (top 4)) (defScope (top 4)) [] [] (He.fAd K ("is_pair", none)) fd ∧ FnOk P w K mg base CX0 1 (He.fAd K ("is_pair", none)) fd (["thing"] : List Str) (spN ⟨K, mg⟩ m_is_pair) ∧ Binds K fd (["thing"] : List Str) [] := by
  obtain ⟨fd, F⟩ := fc.f_is_pair
  have nd : (["thing"] : List Str).Nodup := sc_is_pair.nd
  refine ⟨fd, F, fn_ok (k := 0) F sc_is_pair rfl rfl (fun cdv A outer s H E M0 hr => ?_), F.bindsN fun _ _ _ _ _ _ us hl => match us, hl with | [_], _ => rfl⟩
  exact (ss_one (ss_ret (se_and (se_isTy (n := "tuple") (by decide) (pe_callB call_isi rfl fc.b_isinstance boot_isinstance (pa_cons (sv 0) (pa_cons (pe_bltn (v := .ty "tuple") rfl fc.b_tuple boot_tuple rfl) pa_nil)))) (se_one (se_cmp (op_eqD (hu64 hr)) opb_eq (se_l1 l1_len (pe_callB call_len_seq rfl fc.b_len boot_len (pa_cons (sl_e (sv 0)) pa_nil))) se_int (nomark _))))))
theorem sc_is_key : FnScope ["thing"] (["thing"] : List Str) (defScope (top 17)) := ⟨rfl, rfl, rfl, by decide +kernel, rfl, by decide +kernel, by decide +kernel⟩
theorem ok_is_key (fc : Fc K mg) : ∃ fd, FunD K "is_key" "is_key" (defArgs (top 17)) (defBody (top 17)) (defScope (top 17)) [] [] (He.fAd K ("is_key", none)) fd ∧ FnOk P w K mg base CX0 3 (He.fAd K ("is_key", none)) fd (["thing"] : List Str) (spN ⟨K, mg⟩ m_is_key) ∧ Binds K fd (["thing"] : List Str) [] := by
  obtain ⟨fd_is_integer, F_is_integer, O_is_integer, B_is_integer⟩ := ok_is_integer (P := P) (w := w) (base := base) fc
  obtain ⟨fd_is_pair, F_is_pair, O_is_pair, B_is_pair⟩ := ok_is_pair (P := P) (w := w) (base := base) fc
  obtain ⟨fd_is_within, F_is_within, O_is_within, B_is_within⟩ := ok_is_within (P := P) (w := w) (base := base) fc
  obtain ⟨t_MOST_RANK, i_MOST_RANK⟩ := fc.j_MOST_RANK
  obtain ⟨fd, F⟩ := fc.f_is_key
  have nd : (["thing"] : List Str).Nodup := sc_is_key.nd
  refine ⟨fd, F, fn_ok (k := 2) F sc_is_key rfl rfl (fun cdv A outer s H E M0 hr => ?_), F.bindsN fun _ _ _ _ _ _ us hl => match us, hl with | [_], _ => rfl⟩
  exact (ss_one (ss_ret (se_and (se_call (pe_call (O_is_pair.mono (by decide)) hr rfl fc.g_is_pair F_is_pair.kp B_is_pair .nil pass0 (sa_cons (sv 0) sa_nil))) (se_and (se_call (pe_call (O_is_within.mono (by decide)) hr rfl fc.g_is_within F_is_within.kp B_is_within .nil pass0 (sa_cons (se_ix (sl_e (sv 0)) se_int (fun _ _ => rfl)) (sa_cons (se_neg (se_gint rfl i_MOST_RANK)) (sa_cons (se_gint rfl i_MOST_RANK) sa_nil))))) (se_and (se_call (pe_call (O_is_integer.mono (by decide)) hr rfl fc.g_is_integer F_is_integer.kp B_is_integer .nil pass0 (sa_cons (se_ix (sl_e (sv 0)) se_int (fun _ _ => rfl)) sa_nil))) (se_one (se_cmp op_ge (opb_int iGe) (se_ix (sl_e (sv 0)) se_int (fun _ _ => rfl)) se_int (nomark _))))))))
theorem sc_check_key : FnScope ["thing"] (["thing"] : List Str) (defScope (top 18)) := ⟨rfl, rfl, rfl, by decide +kernel, rfl, by decide +kernel, by decide +kernel⟩
theorem ok_check_key (fc : Fc K mg) : ∃ fd, FunD K "check_key" "check_key" (defArgs (top 18)) (defBody (top 18)) (defScope (top 18)) [] [] (He.fAd K ("check_key", none)) fd ∧ FnOk P w K mg base CX0 4 (He.fAd K ("check_key", none)) fd (["thing"] : List Str) (spN ⟨K, mg⟩ m_check_key) ∧ Binds K fd (["thing"] : List Str) [] := by
  obtain ⟨fd_is_key, F_is_key, O_is_key, B_is_key⟩ := ok_is_key (P := P) (w := w) (base := base) fc
  obtain ⟨fd, F⟩ := fc.f_check_key
  have nd : (["thing"] : List Str).Nodup := sc_check_key.nd
  refine ⟨fd, F, fn_ok (k := 3) F sc_check_key rfl rfl (fun cdv A outer s H E M0 hr => ?_), F.bindsN fun _ _ _ _ _ _ us hl => match us, hl with | [_], _ => rfl⟩
  exact (ss_one (ss_if (st_not (st_val (se_call (pe_call (O_is_key.mono (by decide)) hr rfl fc.g_is_key F_is_key.kp B_is_key .nil pass0 (sa_cons (sv 0) sa_nil))) (fun _ => rfl))) (ss_one ss_bad) ss_nil))
theorem sc_Ideal_push : FnScope ["self", "output", "key", "rank", "cell"] (["self", "output", "key"] : List Str) (defScope (inClass (top 19) 2)) := ⟨rfl, rfl, rfl, by decide +kernel, rfl, by decide +kernel, by decide +kernel⟩
theorem ok_Ideal_push (fc : Fc K mg) : ∃ fd, FunD K "push" "Ideal.push" (defArgs (inClass (top 19) 2)) (defBody (inClass (top 19) 2)) (defScope (inClass (top 19) 2)) [] [] (He.fAd K ("Ideal", some "push")) fd ∧ FnOk P w K mg base CX0 5 (He.fAd K ("Ideal", some "push")) fd (["self", "output", "key"] : List Str) (spN ⟨K, mg⟩ m_Ideal_push) ∧ Binds K fd (["self", "output", "key"] : List Str) [] := by
  obtain ⟨fd_Ideal_check_output, F_Ideal_check_output, O_Ideal_check_output, B_Ideal_check_output⟩ := ok_Ideal_check_output (P := P) (w := w) (base := base) fc
  obtain ⟨fd_check_key, F_check_key, O_check_key, B_check_key⟩ := ok_check_key (P := P) (w := w) (base := base) fc
  obtain ⟨fd, F⟩ := fc.f_Ideal_push
  have nd : (["self", "output", "key", "rank", "cell"] : List Str).Nodup := sc_Ideal_push.nd
  refine ⟨fd, F, fn_ok (k := 4) F sc_Ideal_push rfl rfl (fun cdv A outer s H E M0 hr => ?_), F.bindsN fun _ _ _ _ _ _ us hl => match us, hl with | [_, _, _], _ => rfl⟩
  exact (ss_cons (ss_drop (se_meth fc.g_Ideal (pe_meth (sv 0) fc.c_Ideal fc.m_Ideal_check_output (O_Ideal_check_output.mono (by decide)) hr B_Ideal_check_output .nil pass0 (sa_cons (sv 1) sa_nil))))
    (ss_cons (ss_drop (se_call (pe_call (O_check_key.mono (by decide)) hr rfl fc.g_check_key F_check_key.kp B_check_key .nil pass0 (sa_cons (sv 2) sa_nil))))
    (ss_cons (ss_if (st_in (op_inA (hu65 hr)) (se_ix (sl_e (sv 2)) se_int (fun _ _ => rfl)) (sl_e (se_frz (sn_lcT (g_tup (gs_cons g_name (gs_cons g_name gs_nil))) (gs_in rfl) (pe_lc (own := [("rank", 3), ("cell", 4)]) rfl nd (si_seq (se_ix (sl_e (se_fld (cs := ["Ideal"]) (by intro c hc; simp only [List.mem_cons, List.not_mem_nil, or_false] at hc; subst hc; exact fld_of fc.g_Ideal fc.c_Ideal fc.n_Ideal_kept_keys) (sv 0) rfl)) (sv 1) (fun _ _ => rfl))) (blkOk_by (N := ["self", "output", "key", "rank", "cell"]) (sc := defScope (inClass (top 19) 2)) (by decide +kernel)) (fun _ _ _ _ _ => (pg_tup rfl (pgs_cons (pg_name (i := 3) nd rfl (by first | exact Or.inl rfl | exact Or.inr rfl)) (pgs_cons (pg_name (i := 4) nd rfl (by first | exact Or.inl rfl | exact Or.inr rfl)) pgs_nil)))) (fun _ _ _ _ _ => pts_y) (fun _ _ _ _ _ => (sv 4)))))) (by with_unfolding_all rfl)) (ss_one ss_bad) ss_nil)
    (ss_one (ss_putR (ps_asg (se_new (sn_sorted (pe_callB (cr_sortD (hu70 hr)) rfl fc.b_sorted boot_sorted (pa_cons (sl_e (se_op op_addA ops_add (se_ix (sl_e (se_fld (cs := ["Ideal"]) (by intro c hc; simp only [List.mem_cons, List.not_mem_nil, or_false] at hc; subst hc; exact fld_of fc.g_Ideal fc.c_Ideal fc.n_Ideal_kept_keys) (sv 0) rfl)) (sv 1) (fun _ _ => rfl)) (se_frz (sn_lst (sa_cons (sv 2) sa_nil))))) pa_nil)))) (pg_sub (se_fld (cs := ["Ideal"]) (by intro c hc; simp only [List.mem_cons, List.not_mem_nil, or_false] at hc; subst hc; exact fld_of fc.g_Ideal fc.c_Ideal fc.n_Ideal_kept_keys) (sv 0) rfl) (sv 1) set_list)))))))
theorem sc__law_draw : FnScope ["_law_hand_here", "_law_many", "_law_cell", "_law_digit", "_law_number"] (["_law_hand_here", "_law_many"] : List Str) (defScope (top 22)) := ⟨rfl, rfl, rfl, by decide +kernel, rfl, by decide +kernel, by decide +kernel⟩
theorem ok__law_draw (fc : Fc K mg) : ∃ fd, FunD K "_law_draw" "_law_draw" (defArgs (top 22)) (defBody (top 22)) (defScope (top 22)) [] [] (He.fAd K ("_law_draw", none)) fd ∧ FnOk P w K mg base CX0 1 (He.fAd K ("_law_draw", none)) fd (["_law_hand_here", "_law_many"] : List Str) (spN ⟨K, mg⟩ m__law_draw) ∧ Binds K fd (["_law_hand_here", "_law_many"] : List Str) [] := by
  obtain ⟨fd, F⟩ := fc.f__law_draw
  have nd : (["_law_hand_here", "_law_many", "_law_cell", "_law_digit", "_law_number"] : List Str).Nodup := sc__law_draw.nd
  refine ⟨fd, F, fn_ok (k := 0) F sc__law_draw rfl rfl (fun cdv A outer s H E M0 hr => ?_), F.bindsN fun _ _ _ _ _ _ us hl => match us, hl with | [_, _], _ => rfl⟩
  exact (ss_cons (ss_if (st_w (sw_and (st_cmp (op_eqD (hu64 hr)) opb_eq (se_ix (sl_e (sv 0)) se_int (fun _ _ => rfl)) se_int (nomark _)) (sw_and1 (st_cmp op_lt (opb_int iLt) (se_ix (sl_e (sv 0)) se_int (fun _ _ => rfl)) (se_l1 l1_len (pe_callB call_len_seq rfl fc.b_len boot_len (pa_cons (sl_e (se_ix (sl_e (sv 0)) se_int (fun _ _ => rfl))) pa_nil))) (nomark _))))) (ss_cons (ss_set (i := 2) nd rfl (by first | exact Or.inl rfl | exact Or.inr rfl) (se_ix (sl_e (se_ix (sl_e (sv 0)) se_int (fun _ _ => rfl))) (se_ix (sl_e (sv 0)) se_int (fun _ _ => rfl)) (fun _ _ => rfl)) (.inl rfl))
    (ss_cons (ss_putR (ps_asg (se_op op_addA ops_add (se_ix (sl_e (sv 0)) se_int (fun _ _ => rfl)) se_int) (pg_sub (sv 0) se_int set_list)))
    (ss_cons (ss_putR (ps_asg (se_op op_mod ops_mod (se_intOf (pe_callTy call_int1 rfl fc.b_int boot_int (pa_cons (se_op op_addA ops_add (se_op op_addA ops_add (se_op op_mulA ops_mul (se_ix (sl_e (sv 0)) se_int (fun _ _ => rfl)) se_int) (sv 2)) se_int) pa_nil))) se_int) (pg_sub (sv 0) se_int set_list)))
    (ss_one (ss_if (st_cmp op_ge (opb_int iGe) (sv 2) (se_op op_pow ops_pow se_int se_int) (nomark _)) (ss_one (ss_putR (ps_asg (sv 2) (pg_sub (sv 0) se_int set_list)))) ss_nil))))) ss_nil)
    (ss_cons (ss_if (st_cmp op_gt (opb_int iGt) (se_ix (sl_e (sv 0)) se_int (fun _ _ => rfl)) se_int (nomark _)) (ss_cons (ss_set (i := 3) nd rfl (by first | exact Or.inl rfl | exact Or.inr rfl) (se_op op_mod ops_mod (se_intOf (pe_callTy call_int1 rfl fc.b_int boot_int (pa_cons (se_ix (sl_e (sv 0)) se_int (fun _ _ => rfl)) pa_nil))) (sv 1)) (.inl rfl))
    (ss_cons (ss_putR (ps_asg (se_op op_fdiv ops_div (se_ix (sl_e (sv 0)) se_int (fun _ _ => rfl)) (sv 1)) (pg_sub (sv 0) se_int set_list)))
    (ss_one (ss_ret (sv 3))))) ss_nil)
    (ss_cons (ss_putR (ps_asg (se_op op_addA ops_add (se_ix (sl_e (sv 0)) se_int (fun _ _ => rfl)) se_int) (pg_sub (sv 0) se_int set_list)))
    (ss_cons (ss_set (i := 4) nd rfl (by first | exact Or.inl rfl | exact Or.inr rfl) (se_op op_mod ops_mod (se_intOf (pe_callTy call_int1 rfl fc.b_int boot_int (pa_cons (se_op op_mulA ops_mul (se_intOf (pe_callTy call_int1 rfl fc.b_int boot_int (pa_cons (se_op op_addA ops_add (se_ix (sl_e (sv 0)) se_int (fun _ _ => rfl)) (se_op op_mulA ops_mul se_int (se_ix (sl_e (sv 0)) se_int (fun _ _ => rfl)))) pa_nil))) se_int) pa_nil))) se_int) (.inl rfl))
    (ss_cons (ss_set (i := 4) nd rfl (by first | exact Or.inl rfl | exact Or.inr rfl) (se_op op_mod ops_mod (se_intOf (pe_callTy call_int1 rfl fc.b_int boot_int (pa_cons (se_op op_mulA ops_mul (sv 4) (se_op op_addA ops_add (se_op op_fdiv ops_div (sv 4) se_int) se_int)) pa_nil))) se_int) (.inl rfl))
    (ss_cons (ss_set (i := 4) nd rfl (by first | exact Or.inl rfl | exact Or.inr rfl) (se_op op_mod ops_mod (se_intOf (pe_callTy call_int1 rfl fc.b_int boot_int (pa_cons (se_op op_mulA ops_mul (sv 4) (se_op op_addA ops_add (se_op op_fdiv ops_div (sv 4) se_int) se_int)) pa_nil))) se_int) (.inl rfl))
    (ss_one (ss_ret (se_op op_mod ops_mod (se_intOf (pe_callTy call_int1 rfl fc.b_int boot_int (pa_cons (se_op op_fdiv ops_div (sv 4) se_int) pa_nil))) (sv 1))))))))))
theorem sc__law_any : FnScope ["_law_hand_here", "_law_some"] (["_law_hand_here", "_law_some"] : List Str) (defScope (top 23)) := ⟨rfl, rfl, rfl, by decide +kernel, rfl, by decide +kernel, by decide +kernel⟩
theorem ok__law_any (fc : Fc K mg) : ∃ fd, FunD K "_law_any" "_law_any" (defArgs (top 23)) (defBody (top 23)) (defScope (top 23)) [] [] (He.fAd K ("_law_any", none)) fd ∧ FnOk P w K mg base CX0 2 (He.fAd K ("_law_any", none)) fd (["_law_hand_here", "_law_some"] : List Str) (spN ⟨K, mg⟩ m__law_any) ∧ Binds K fd (["_law_hand_here", "_law_some"] : List Str) [] := by
  obtain ⟨fd__law_draw, F__law_draw, O__law_draw, B__law_draw⟩ := ok__law_draw (P := P) (w := w) (base := base) fc
  obtain ⟨fd, F⟩ := fc.f__law_any
  have nd : (["_law_hand_here", "_law_some"] : List Str).Nodup := sc__law_any.nd
  refine ⟨fd, F, fn_ok (k := 1) F sc__law_any rfl rfl (fun cdv A outer s H E M0 hr => ?_), F.bindsN fun _ _ _ _ _ _ us hl => match us, hl with | [_, _], _ => rfl⟩
  exact (ss_one (ss_ret (se_ix (sl_e (sv 1)) (se_call (pe_call (O__law_draw.mono (by decide)) hr rfl fc.g__law_draw F__law_draw.kp B__law_draw .nil pass0 (sa_cons (sv 0) (sa_cons (se_l1 l1_len (pe_callB call_len_seq rfl fc.b_len boot_len (pa_cons (sl_e (sv 1)) pa_nil))) sa_nil)))) (fun _ _ => rfl))))
theorem sc__law_hand : FnScope ["_law_script", "_law_given", "_law_cell"] (["_law_script"] : List Str) (defScope (top 21)) := ⟨rfl, rfl, rfl, by decide +kernel, rfl, by decide +kernel, by decide +kernel⟩
theorem ok__law_hand (fc : Fc K mg) : ∃ fd, FunD K "_law_hand" "_law_hand" (defArgs (top 21)) (defBody (top 21)) (defScope (top 21)) [] [] (He.fAd K ("_law_hand", none)) fd ∧ FnOk P w K mg base CX0 1 (He.fAd K ("_law_hand", none)) fd (["_law_script"] : List Str) (spN ⟨K, mg⟩ m__law_hand) ∧ Binds K fd (["_law_script"] : List Str) [] := by
  obtain ⟨fd, F⟩ := fc.f__law_hand
  have nd : (["_law_script", "_law_given", "_law_cell"] : List Str).Nodup := sc__law_hand.nd
  refine ⟨fd, F, fn_ok (k := 0) F sc__law_hand rfl rfl (fun cdv A outer s H E M0 hr => ?_), F.bindsN fun _ _ _ _ _ _ us hl => match us, hl with | [_], _ => rfl⟩
  exact (ss_cons (ss_lcFT g_name (gs_in rfl) (ps_setLc (i := 1) (own := [("_law_cell", 2)]) rfl nd rfl rfl (sw_true rfl rfl rfl (by decide +kernel)) (si_seq (se_slice (sl_e (sv 0)) so_none (so_some se_int))) (blkOk_by (N := ["_law_script", "_law_given", "_law_cell"]) (sc := defScope (top 21)) (by decide +kernel)) (fun _ _ _ _ _ => (pg_name (i := 2) nd rfl (by first | exact Or.inl rfl | exact Or.inr rfl))) (fun _ _ _ _ _ => pts_y) (fun _ _ _ _ _ => (se_abs (pe_callB call_abs rfl fc.b_abs boot_abs (pa_cons (se_intOf (pe_callTy call_int1 rfl fc.b_int boot_int (pa_cons (sv 2) pa_nil))) pa_nil)))) ))
    (ss_one (ss_ret (se_new (sn_lst (sa_cons (sv 1) (sa_cons se_int (sa_cons se_int (sa_cons (se_op op_addA ops_add se_int (se_l1 l1_len (pe_callB call_len_seq rfl fc.b_len boot_len (pa_cons (sl_e (sv 1)) pa_nil)))) (sa_cons se_int sa_nil))))))))))
theorem sc__law_inserted : FnScope ["_law_row", "_law_key_here", "_law_at", "_law_one"] (["_law_row", "_law_key_here"] : List Str) (defScope (top 25)) := ⟨rfl, rfl, rfl, by decide +kernel, rfl, by decide +kernel, by decide +kernel⟩
theorem ok__law_inserted (fc : Fc K mg) : ∃ fd, FunD K "_law_inserted" "_law_inserted" (defArgs (top 25)) (defBody (top 25)) (defScope (top 25)) [] [] (He.fAd K ("_law_inserted", none)) fd ∧ FnOk P w K mg base CX0 1 (He.fAd K ("_law_inserted", none)) fd (["_law_row", "_law_key_here"] : List Str) (spN ⟨K, mg⟩ m__law_inserted) ∧ Binds K fd (["_law_row", "_law_key_here"] : List Str) [] := by
  obtain ⟨fd, F⟩ := fc.f__law_inserted
  have nd : (["_law_row", "_law_key_here", "_law_at", "_law_one"] : List Str).Nodup := sc__law_inserted.nd
  refine ⟨fd, F, fn_ok (k := 0) F sc__law_inserted rfl rfl (fun cdv A outer s H E M0 hr => ?_), F.bindsN fun _ _ _ _ _ _ us hl => match us, hl with | [_, _], _ => rfl⟩
  exact (ss_cons (ss_set (i := 2) nd rfl (by first | exact Or.inl rfl | exact Or.inr rfl) (se_l1 l1_len (pe_callB call_len_seq rfl fc.b_len boot_len (pa_cons (sl_e (se_frz (sn_lcT g_name (gs_in rfl) (pe_lc (own := [("_law_one", 3)]) rfl nd (si_seq (sv 0)) (blkOk_by (N := ["_law_row", "_law_key_here", "_law_at", "_law_one"]) (sc := defScope (top 25)) (by decide +kernel)) (fun _ _ _ _ _ => (pg_name (i := 3) nd rfl (by first | exact Or.inl rfl | exact Or.inr rfl))) (fun _ _ _ _ _ => (pts_one (st_cmp (op_ltD (hu64 hr)) opb_lt (sv 3) (sv 1) (nomark _)))) (fun _ _ _ _ _ => (sv 3)))))) pa_nil))) (.inl rfl))
    (ss_one (ss_ret (se_op op_addA ops_add (se_op op_addA ops_add (se_slice (sl_e (sv 0)) so_none (so_some (sv 2))) (se_frz (sn_lst (sa_cons (sv 1) sa_nil)))) (se_slice (sl_e (sv 0)) (so_some (sv 2)) so_none)))))
theorem sc__law_key : FnScope ["_law_hand_here", "_law_many", "_law_rank"] (["_law_hand_here", "_law_many"] : List Str) (defScope (top 24)) := ⟨rfl, rfl, rfl, by decide +kernel, rfl, by decide +kernel, by decide +kernel⟩
theorem ok__law_key (fc : Fc K mg) : ∃ fd, FunD K "_law_key" "_law_key" (defArgs (top 24)) (defBody (top 24)) (defScope (top 24)) [] [] (He.fAd K ("_law_key", none)) fd ∧ FnOk P w K mg base CX0 3 (He.fAd K ("_law_key", none)) fd (["_law_hand_here", "_law_many"] : List Str) (spN ⟨K, mg⟩ m__law_key) ∧ Binds K fd (["_law_hand_here", "_law_many"] : List Str) [] := by
  obtain ⟨fd__law_any, F__law_any, O__law_any, B__law_any⟩ := ok__law_any (P := P) (w := w) (base := base) fc
  obtain ⟨fd__law_draw, F__law_draw, O__law_draw, B__law_draw⟩ := ok__law_draw (P := P) (w := w) (base := base) fc
  obtain ⟨fd, F⟩ := fc.f__law_key
  have nd : (["_law_hand_here", "_law_many", "_law_rank"] : List Str).Nodup := sc__law_key.nd
  refine ⟨fd, F, fn_ok (k := 2) F sc__law_key rfl rfl (fun cdv A outer s H E M0 hr => ?_), F.bindsN fun _ _ _ _ _ _ us hl => match us, hl with | [_, _], _ => rfl⟩
  exact (ss_cons (ss_set (i := 2) nd rfl (by first | exact Or.inl rfl | exact Or.inr rfl) (se_call (pe_call (O__law_any.mono (by decide)) hr rfl fc.g__law_any F__law_any.kp B__law_any .nil pass0 (sa_cons (sv 0) (sa_cons (se_frz (sn_lst (sa_cons se_int (sa_cons se_int (sa_cons se_int (sa_cons se_int (sa_cons (se_neg se_int) (sa_cons (se_op op_pow ops_pow se_int se_int) (sa_cons (se_neg (se_op op_pow ops_pow se_int se_int)) (sa_cons (se_op op_sub ops_sub (se_call (pe_call (O__law_draw.mono (by decide)) hr rfl fc.g__law_draw F__law_draw.kp B__law_draw .nil pass0 (sa_cons (sv 0) (sa_cons se_int sa_nil)))) se_int) sa_nil)))))))))) sa_nil)))) (.inl rfl))
    (ss_one (ss_ret (se_tup (sa_cons (sv 2) (sa_cons (se_call (pe_call (O__law_draw.mono (by decide)) hr rfl fc.g__law_draw F__law_draw.kp B__law_draw .nil pass0 (sa_cons (sv 0) (sa_cons (sv 1) sa_nil)))) sa_nil))))))
theorem sc_law : FnScope ["_law_script", "_law_hand_here", "_law_outputs", "_law_every", "_law_output", "_law_turn", "_law_ideal", "_law_rows", "_law_kind", "_law_key_here", "_law_rank", "_law_cell", "_law_at", "_law_one", "_law_row", "_law_alike", "_law_other", "_law_more"] (["_law_script"] : List Str) (defScope (top 26)) := ⟨rfl, rfl, rfl, by decide +kernel, rfl, by decide +kernel, by decide +kernel⟩
theorem ok_law (fc : Fc K mg) : ∃ fd, FunD K "law" "law" (defArgs (top 26)) (defBody (top 26)) (defScope (top 26)) [] [] (He.fAd K ("law", none)) fd ∧ FnOk P w K mg base CX0 7 (He.fAd K ("law", none)) fd (["_law_script"] : List Str) (spN ⟨K, mg⟩ m_law) ∧ Binds K fd (["_law_script"] : List Str) [] := by
  obtain ⟨fd_Ideal_init, F_Ideal_init, O_Ideal_init, B_Ideal_init⟩ := ok_Ideal_init (P := P) (w := w) (base := base) fc
  obtain ⟨fd_Ideal_copy, F_Ideal_copy, O_Ideal_copy, B_Ideal_copy⟩ := ok_Ideal_copy (P := P) (w := w) (base := base) fc
  obtain ⟨fd_Ideal_held, F_Ideal_held, O_Ideal_held, B_Ideal_held⟩ := ok_Ideal_held (P := P) (w := w) (base := base) fc
  obtain ⟨fd_Ideal_let_go, F_Ideal_let_go, O_Ideal_let_go, B_Ideal_let_go⟩ := ok_Ideal_let_go (P := P) (w := w) (base := base) fc
  obtain ⟨fd_Ideal_push, F_Ideal_push, O_Ideal_push, B_Ideal_push⟩ := ok_Ideal_push (P := P) (w := w) (base := base) fc
  obtain ⟨fd__law_any, F__law_any, O__law_any, B__law_any⟩ := ok__law_any (P := P) (w := w) (base := base) fc
  obtain ⟨fd__law_draw, F__law_draw, O__law_draw, B__law_draw⟩ := ok__law_draw (P := P) (w := w) (base := base) fc
  obtain ⟨fd__law_hand, F__law_hand, O__law_hand, B__law_hand⟩ := ok__law_hand (P := P) (w := w) (base := base) fc
  obtain ⟨fd__law_inserted, F__law_inserted, O__law_inserted, B__law_inserted⟩ := ok__law_inserted (P := P) (w := w) (base := base) fc
  obtain ⟨fd__law_key, F__law_key, O__law_key, B__law_key⟩ := ok__law_key (P := P) (w := w) (base := base) fc
  obtain ⟨fd, F⟩ := fc.f_law
  have nd : (["_law_script", "_law_hand_here", "_law_outputs", "_law_every", "_law_output", "_law_turn", "_law_ideal", "_law_rows", "_law_kind", "_law_key_here", "_law_rank", "_law_cell", "_law_at", "_law_one", "_law_row", "_law_alike", "_law_other", "_law_more"] : List Str).Nodup := sc_law.nd
  refine ⟨fd, F, fn_ok (k := 6) F sc_law rfl rfl (fun cdv A outer s H E M0 hr => ?_), F.bindsN fun _ _ _ _ _ _ us hl => match us, hl with | [_], _ => rfl⟩
  exact (ss_cons (ss_set (i := 1) nd rfl (by first | exact Or.inl rfl | exact Or.inr rfl) (se_call (pe_call (O__law_hand.mono (by decide)) hr rfl fc.g__law_hand F__law_hand.kp B__law_hand .nil pass0 (sa_cons (sv 0) sa_nil))) (.inl rfl))
    (ss_cons (ss_set (i := 2) nd rfl (by first | exact Or.inl rfl | exact Or.inr rfl) (se_call (pe_call (O__law_any.mono (by decide)) hr rfl fc.g__law_any F__law_any.kp B__law_any .nil pass0 (sa_cons (sv 1) (sa_cons (se_frz (sn_lst (sa_cons se_int (sa_cons se_int (sa_cons se_int sa_nil))))) sa_nil)))) (.inl rfl))
    (ss_cons (ss_set (i := 3) nd rfl (by first | exact Or.inl rfl | exact Or.inr rfl) (se_new (sn_lst (sa_cons (se_tup (sa_cons (se_make fc.g_Ideal (pe_make fc.k_Ideal O_Ideal_init (hr.mono (by decide)) rfl fc.g_Ideal B_Ideal_init .nil pass0 (sa_cons (sv 2) sa_nil))) (sa_cons (se_new (sn_lcT g_name (gs_in rfl) (pe_lc (own := [("_law_output", 4)]) rfl nd (si_range1 (pi_range1 rfl fc.b_range (pa_cons (sv 2) pa_nil))) (blkOk_by (N := ["_law_script", "_law_hand_here", "_law_outputs", "_law_every", "_law_output", "_law_turn", "_law_ideal", "_law_rows", "_law_kind", "_law_key_here", "_law_rank", "_law_cell", "_law_at", "_law_one", "_law_row", "_law_alike", "_law_other", "_law_more"]) (sc := defScope (top 26)) (by decide +kernel)) (fun _ _ _ _ _ => (pg_name (i := 4) nd rfl (by first | exact Or.inl rfl | exact Or.inr rfl))) (fun _ _ _ _ _ => pts_y) (fun _ _ _ _ _ => (se_frz (sn_lst sa_nil)))))) sa_nil))) sa_nil))) (.inl rfl))
    (ss_cons (ss_for (g := (gName 5)) (is := [5]) PassesOwn.never rfl (si_range1 (pi_range1 rfl fc.b_range (pa_cons (se_op op_addA ops_add se_int (se_call (pe_call (O__law_draw.mono (by decide)) hr rfl fc.g__law_draw F__law_draw.kp B__law_draw .nil pass0 (sa_cons (sv 1) (sa_cons se_int sa_nil))))) pa_nil))) (pg_name (i := 5) nd rfl (by first | exact Or.inl rfl | exact Or.inr rfl)) g_name (ss_cons (ss_asg (g := (gTup _ 2 (gCons (gName 6) (gCons (gName 7) gNil)))) (is := ([6] ++ ([7] ++ []))) (se_call (pe_call (O__law_any.mono (by decide)) hr rfl fc.g__law_any F__law_any.kp B__law_any .nil pass0 (sa_cons (sv 1) (sa_cons (sv 3) sa_nil)))) (pg_tup rfl (pgs_cons (pg_name (i := 6) nd rfl (by first | exact Or.inl rfl | exact Or.inr rfl)) (pgs_cons (pg_name (i := 7) nd rfl (by first | exact Or.inl rfl | exact Or.inr rfl)) pgs_nil))) (g_tup (gs_cons g_name (gs_cons g_name gs_nil))))
    (ss_cons (ss_par (ps_par (i := 4) (j := 8) rfl nd rfl rfl (by decide) rfl rfl (pa_cons (se_call (pe_call (O__law_draw.mono (by decide)) hr rfl fc.g__law_draw F__law_draw.kp B__law_draw .nil pass0 (sa_cons (sv 1) (sa_cons (sv 2) sa_nil)))) (pa_cons (se_call (pe_call (O__law_draw.mono (by decide)) hr rfl fc.g__law_draw F__law_draw.kp B__law_draw .nil pass0 (sa_cons (sv 1) (sa_cons se_int sa_nil)))) pa_nil)) rfl) (by decide))
    (ss_one (ss_if (st_w (sw_and (st_cmp (op_eqD (hu64 hr)) opb_eq (sv 8) se_int (nomark _)) (sw_and1 (st_cmp op_lt (opb_int iLt) (se_l1 l1_len (pe_callB call_len_seq rfl fc.b_len boot_len (pa_cons (sl_e (sv 3)) pa_nil))) se_int (nomark _))))) (ss_one (ss_drop (se_appR (pe_bm PySem.F.plainAttrs_list PySem.F.slot_list_append PySem.F.type_list_append mt_append (sv 3) (pa_cons (se_tup (sa_cons (se_meth0 fc.g_Ideal (pe_meth0 (sv 6) fc.c_Ideal fc.m_Ideal_copy (O_Ideal_copy.mono (by decide)) hr B_Ideal_copy .nil pass0)) (sa_cons (se_new (sn_lstOf (pe_callTy call_list_of rfl fc.b_list boot_list (pa_cons (sl_e (sv 7)) pa_nil)))) sa_nil))) pa_nil))))) (ss_one (ss_if (st_cmp op_lt (opb_int iLt) (sv 8) se_int (nomark _)) (ss_cons (ss_set (i := 9) nd rfl (by first | exact Or.inl rfl | exact Or.inr rfl) (se_call (pe_call (O__law_key.mono (by decide)) hr rfl fc.g__law_key F__law_key.kp B__law_key .nil pass0 (sa_cons (sv 1) (sa_cons se_int sa_nil)))) (.inl rfl))
    (ss_one (ss_if (st_in (op_notInA (hu65 hr)) (se_ix (sl_e (sv 9)) se_int (fun _ _ => rfl)) (sl_e (se_frz (sn_lcT (g_tup (gs_cons g_name (gs_cons g_name gs_nil))) (gs_in rfl) (pe_lc (own := [("_law_rank", 10), ("_law_cell", 11)]) rfl nd (si_seq (se_ix (sl_e (sv 7)) (sv 4) (fun _ _ => rfl))) (blkOk_by (N := ["_law_script", "_law_hand_here", "_law_outputs", "_law_every", "_law_output", "_law_turn", "_law_ideal", "_law_rows", "_law_kind", "_law_key_here", "_law_rank", "_law_cell", "_law_at", "_law_one", "_law_row", "_law_alike", "_law_other", "_law_more"]) (sc := defScope (top 26)) (by decide +kernel)) (fun _ _ _ _ _ => (pg_tup rfl (pgs_cons (pg_name (i := 10) nd rfl (by first | exact Or.inl rfl | exact Or.inr rfl)) (pgs_cons (pg_name (i := 11) nd rfl (by first | exact Or.inl rfl | exact Or.inr rfl)) pgs_nil)))) (fun _ _ _ _ _ => pts_y) (fun _ _ _ _ _ => (sv 11)))))) (by with_unfolding_all rfl)) (ss_cons (ss_drop (se_meth fc.g_Ideal (pe_meth (sv 6) fc.c_Ideal fc.m_Ideal_push (O_Ideal_push.mono (by decide)) hr B_Ideal_push .nil pass0 (sa_cons (sv 4) (sa_cons (sv 9) sa_nil)))))
    (ss_one (ss_putR (ps_asg (se_call (pe_call (O__law_inserted.mono (by decide)) hr rfl fc.g__law_inserted F__law_inserted.kp B__law_inserted .nil pass0 (sa_cons (se_ix (sl_e (sv 7)) (sv 4) (fun _ _ => rfl)) (sa_cons (sv 9) sa_nil)))) (pg_sub (sv 7) (sv 4) set_list))))) ss_nil))) (ss_one (ss_if (st_cmp op_gt (opb_int iGt) (se_l1 l1_len (pe_callB call_len_seq rfl fc.b_len boot_len (pa_cons (sl_e (se_ix (sl_e (sv 7)) (sv 4) (fun _ _ => rfl))) pa_nil))) se_int (nomark _)) (ss_cons (ss_if (st_cmp (op_neD (hu64 hr)) opb_ne (se_meth fc.g_Ideal (pe_meth (sv 6) fc.c_Ideal fc.m_Ideal_let_go (O_Ideal_let_go.mono (by decide)) hr B_Ideal_let_go .nil pass0 (sa_cons (sv 4) sa_nil))) (se_ix (sl_e (se_ix (sl_e (sv 7)) (sv 4) (fun _ _ => rfl))) se_int (fun _ _ => rfl)) (nomark _)) (ss_one (ss_ret se_bl)) ss_nil)
    (ss_one (ss_putR (ps_asg (se_slice (sl_e (se_ix (sl_e (sv 7)) (sv 4) (fun _ _ => rfl))) (so_some se_int) so_none) (pg_sub (sv 7) (sv 4) set_list))))) ss_nil)))))))))
    (ss_cons (ss_for (g := (gTup _ 2 (gCons (gName 12) (gCons (gTup _ 2 (gCons (gName 13) (gCons (gName 7) gNil))) gNil)))) (is := ([12] ++ (([13] ++ ([7] ++ [])) ++ []))) PassesOwn.never rfl (si_enum (pi_enum rfl fc.b_enumerate (pa_cons (sv 3) pa_nil))) (pg_tup rfl (pgs_cons (pg_name (i := 12) nd rfl (by first | exact Or.inl rfl | exact Or.inr rfl)) (pgs_cons (pg_tup rfl (pgs_cons (pg_name (i := 13) nd rfl (by first | exact Or.inl rfl | exact Or.inr rfl)) (pgs_cons (pg_name (i := 7) nd rfl (by first | exact Or.inl rfl | exact Or.inr rfl)) pgs_nil))) pgs_nil))) (g_tup (gs_cons g_name (gs_cons (g_tup (gs_cons g_name (gs_cons g_name gs_nil))) gs_nil))) (ss_cons (ss_if (st_cmp (op_neD (hu64 hr)) opb_ne (se_frz (sn_lcT g_name (gs_in rfl) (pe_lc (own := [("_law_output", 4)]) rfl nd (si_range1 (pi_range1 rfl fc.b_range (pa_cons (sv 2) pa_nil))) (blkOk_by (N := ["_law_script", "_law_hand_here", "_law_outputs", "_law_every", "_law_output", "_law_turn", "_law_ideal", "_law_rows", "_law_kind", "_law_key_here", "_law_rank", "_law_cell", "_law_at", "_law_one", "_law_row", "_law_alike", "_law_other", "_law_more"]) (sc := defScope (top 26)) (by decide +kernel)) (fun _ _ _ _ _ => (pg_name (i := 4) nd rfl (by first | exact Or.inl rfl | exact Or.inr rfl))) (fun _ _ _ _ _ => pts_y) (fun _ _ _ _ _ => (se_meth fc.g_Ideal (pe_meth (sv 13) fc.c_Ideal fc.m_Ideal_held (O_Ideal_held.mono (by decide)) hr B_Ideal_held .nil pass0 (sa_cons (sv 4) sa_nil))))))) (se_frz (sn_lcT g_name (gs_in rfl) (pe_lc (own := [("_law_row", 14)]) rfl nd (si_seq (sv 7)) (blkOk_by (N := ["_law_script", "_law_hand_here", "_law_outputs", "_law_every", "_law_output", "_law_turn", "_law_ideal", "_law_rows", "_law_kind", "_law_key_here", "_law_rank", "_law_cell", "_law_at", "_law_one", "_law_row", "_law_alike", "_law_other", "_law_more"]) (sc := defScope (top 26)) (by decide +kernel)) (fun _ _ _ _ _ => (pg_name (i := 14) nd rfl (by first | exact Or.inl rfl | exact Or.inr rfl))) (fun _ _ _ _ _ => pts_y) (fun _ _ _ _ _ => (se_tupOf (pe_callTy call_tuple_of rfl fc.b_tuple boot_tuple (pa_cons (sl_e (sv 14)) pa_nil))))))) (nomark _)) (ss_one (ss_ret se_bl)) ss_nil)
    (ss_cons (ss_lcFT (g_tup (gs_cons g_name (gs_cons g_name gs_nil))) (gs_in rfl) (ps_setLc (i := 15) (own := [("_law_other", 16), ("_law_more", 17)]) rfl nd rfl rfl (sw_true rfl rfl rfl (by decide +kernel)) (si_seq (sv 3)) (blkOk_by (N := ["_law_script", "_law_hand_here", "_law_outputs", "_law_every", "_law_output", "_law_turn", "_law_ideal", "_law_rows", "_law_kind", "_law_key_here", "_law_rank", "_law_cell", "_law_at", "_law_one", "_law_row", "_law_alike", "_law_other", "_law_more"]) (sc := defScope (top 26)) (by decide +kernel)) (fun _ _ _ _ _ => (pg_tup rfl (pgs_cons (pg_name (i := 16) nd rfl (by first | exact Or.inl rfl | exact Or.inr rfl)) (pgs_cons (pg_name (i := 17) nd rfl (by first | exact Or.inl rfl | exact Or.inr rfl)) pgs_nil)))) (fun _ _ _ _ _ => pts_y) (fun _ _ _ _ _ => (se_cmp (op_same (hu0 hr)) (opb_same (noeq_of fc.g_Ideal fc.q_Ideal)) (sv 13) (sv 16) (nomark _))) ))
    (ss_one (ss_if (st_w (sw_or (st_cmp (op_neD (hu64 hr)) opb_ne (se_count (pe_bm PySem.F.plainAttrs_list PySem.F.slot_list_count PySem.F.type_list_count (mt_countD (hu65 hr)) (sl_e (sv 15)) (pa_cons se_bl pa_nil))) se_int (nomark _)) (sw_or1 (st_cmp (op_neD (hu64 hr)) opb_ne (se_index (pe_bm PySem.F.plainAttrs_list PySem.F.slot_list_index PySem.F.type_list_index (mt_indexD (hu65 hr)) (sl_e (sv 15)) (pa_cons se_bl pa_nil))) (sv 12) (nomark _))))) (ss_one (ss_ret se_bl)) ss_nil)))))
    (ss_one (ss_ret se_bl)))))))
end
end L07

set_option Elab.async false
set_option linter.all false
set_option maxRecDepth 100000
set_option maxHeartbeats 4000000
/-! What the small tongue tells, as equations: no machine here. -/
namespace Dn
open PySem
@[simp] theorem eC_ap (d : D)  (r : Rho) (S : Store) : eC d r S = (.ok d S) := rfl
@[simp] theorem eVar_ap (i : Nat)  (r : Rho) (S : Store) : eVar i r S = (match r[i]? with
  | some (.val d) => .ok d S
  | _ => .bad) := rfl
@[simp] theorem eOp_ap (f : Store → D → D → Option D) (a b : DE)  (r : Rho) (S : Store) : eOp f a b r S = ((a r S).bind fun x S => (b r S).bind fun y S => Rs.ofO (f S x y) S) := rfl
@[simp] theorem eUn_ap (f : D → Option D) (a : DE)  (r : Rho) (S : Store) : eUn f a r S = ((a r S).bind fun x S => Rs.ofO (f x) S) := rfl
@[simp] theorem eCmp_ap (f : Store → D → D → Option Bool) (a b : DE)  (r : Rho) (S : Store) : eCmp f a b r S = ((a r S).bind fun x S => (b r S).bind fun y S => Rs.ofO ((f S x y).map D.bl) S) := rfl
@[simp] theorem eCmp1_ap (f : D → Option Bool) (a : DE)  (r : Rho) (S : Store) : eCmp1 f a r S = ((a r S).bind fun x S => Rs.ofO ((f x).map D.bl) S) := rfl
@[simp] theorem eChain_ap (f g : Store → D → D → Option Bool) (a b c : DE)  (r : Rho) (S : Store) : eChain f g a b c r S = ((a r S).bind fun x S => (b r S).bind fun y S => (Rs.ofO (f S x y) S).bind fun k S =>
  if k then (c r S).bind fun z S => Rs.ofO ((g S y z).map D.bl) S else .ok (.bl false) S) := rfl
@[simp] theorem tOfB_ap (a : DE)  (r : Rho) (S : Store) : tOfB a r S = ((a r S).bind fun x S => match x with
  | .bl b => .ok b S
  | _ => .bad) := rfl
@[simp] theorem tNotD_ap (a : DT)  (r : Rho) (S : Store) : tNotD a r S = ((a r S).bind fun x S => .ok (!x) S) := rfl
@[simp] theorem tAndD_ap (a b : DT)  (r : Rho) (S : Store) : tAndD a b r S = ((a r S).bind fun x S => if x then b r S else .ok false S) := rfl
@[simp] theorem tOrD_ap (a b : DT)  (r : Rho) (S : Store) : tOrD a b r S = ((a r S).bind fun x S => if x then .ok true S else b r S) := rfl
@[simp] theorem eAnd_ap (a b : DE)  (r : Rho) (S : Store) : eAnd a b r S = ((a r S).bind fun x S => match x with
  | .bl c => if c then b r S else .ok (.bl false) S
  | _ => .bad) := rfl
@[simp] theorem eOr_ap (a b : DE)  (r : Rho) (S : Store) : eOr a b r S = ((a r S).bind fun x S => match x with
  | .bl c => if c then .ok (.bl true) S else b r S
  | _ => .bad) := rfl
@[simp] theorem eNot_ap (a : DE)  (r : Rho) (S : Store) : eNot a r S = ((a r S).bind fun x S => match x with
  | .bl c => .ok (.bl (!c)) S
  | _ => .bad) := rfl
@[simp] theorem eIf_ap (t : DT) (a b : DE)  (r : Rho) (S : Store) : eIf t a b r S = ((t r S).bind fun x S => if x then a r S else b r S) := rfl
@[simp] theorem aNil_ap   (r : Rho) (S : Store) : aNil  r S = (.ok [] S) := rfl
@[simp] theorem aCons_ap (a : DE) (b : DA)  (r : Rho) (S : Store) : aCons a b r S = ((a r S).bind fun x S => (b r S).bind fun xs S => .ok (x :: xs) S) := rfl
@[simp] theorem eTup_ap (a : DA)  (r : Rho) (S : Store) : eTup a r S = ((a r S).bind fun xs S => if xs.length ≤ sizeLine then .ok (.tup xs) S else .bad) := rfl
@[simp] theorem eLst_ap (a : DA)  (r : Rho) (S : Store) : eLst a r S = ((a r S).bind fun xs S => if xs.length ≤ sizeLine then .ok (.lst xs) S else .bad) := rfl
@[simp] theorem nLst_ap (a : DA)  (r : Rho) (S : Store) : nLst a r S = ((a r S).bind fun xs S => if xs.length ≤ sizeLine then .ok xs S else .bad) := rfl
@[simp] theorem eFrz_ap (a : DA)  (r : Rho) (S : Store) : eFrz a r S = ((a r S).bind fun xs S => .ok (.lst xs) S) := rfl
@[simp] theorem eNew_ap (a : DA)  (r : Rho) (S : Store) : eNew a r S = ((a r S).bind fun xs S => .ok (.ref S.length) (S ++ [.lst xs])) := rfl
@[simp] theorem eCall_ap (m : Fn) (a : DA)  (r : Rho) (S : Store) : eCall m a r S = ((a r S).bind fun xs S => m xs S) := rfl
@[simp] theorem lE_ap (a : DE)  (r : Rho) (S : Store) : lE a r S = ((a r S).bind fun x S => Rs.ofO (srcOf S x) S) := rfl
@[simp] theorem lOwn_ap (i : Nat)  (r : Rho) (S : Store) : lOwn i r S = (match r[i]? with
  | some (.own _) => .ok (.own i) S
  | _ => .bad) := rfl
@[simp] theorem eL1_ap (f : Bool → List D → Option D) (a : DL)  (r : Rho) (S : Store) : eL1 f a r S = ((a r S).bind fun c S => Rs.ofO ((c.get r S).bind (f c.isT)) S) := rfl
@[simp] theorem nLstOf_ap (a : DL)  (r : Rho) (S : Store) : nLstOf a r S = ((a r S).bind fun c S => Rs.ofO (c.get r S) S) := rfl
@[simp] theorem eCount_ap (b : DL) (a : DE)  (r : Rho) (S : Store) : eCount b a r S = ((b r S).bind fun c S => (Rs.ofO (if c.isT then none else c.get r S) S).bind fun _ S => (a r S).bind fun x S => (Rs.ofO (c.get r S) S).bind fun xs S =>
  if D.pl 63 x && D.pls 63 xs then .ok (.int (xs.countP fun z => eqD z x : Nat)) S else .bad) := rfl
@[simp] theorem eIndex_ap (b : DL) (a : DE)  (r : Rho) (S : Store) : eIndex b a r S = ((b r S).bind fun c S => (Rs.ofO (if c.isT then none else c.get r S) S).bind fun _ S => (a r S).bind fun x S => (Rs.ofO (c.get r S) S).bind fun xs S =>
  if D.pl 63 x && D.pls 63 xs && xs.any (fun z => eqD z x) then .ok (.int (xs.findIdx fun z => eqD z x : Nat)) S else .bad) := rfl
@[simp] theorem eLenS_ap (a : DE)  (r : Rho) (S : Store) : eLenS a r S = ((a r S).bind fun x S => match x with
  | .str z => if z.length ≤ sizeLine then .ok (.int z.length) S else .bad
  | _ => .bad) := rfl
@[simp] theorem eIx_ap (a : DL) (b : DE)  (r : Rho) (S : Store) : eIx a b r S = ((a r S).bind fun c S => (b r S).bind fun y S => match y with
  | .int i => Rs.ofO ((c.get r S).bind fun xs => atD xs i) S
  | _ => .bad) := rfl
@[simp] theorem eAppR_ap (o a : DE)  (r : Rho) (S : Store) : eAppR o a r S = ((o r S).bind fun p S => match p with
  | .ref l => (match S[l]? with
    | some (.lst _) => (a r S).bind fun x S => (match S[l]? with
      | some (.lst xs) => if xs.length < sizeLine then .ok .non (S.set l (.lst (xs ++ [x]))) else .bad
      | _ => .bad)
    | _ => .bad)
  | _ => .bad) := rfl
@[simp] theorem ePopR_ap (o k : DE)  (r : Rho) (S : Store) : ePopR o k r S = ((o r S).bind fun p S => match p with
  | .ref l => (match S[l]? with
    | some (.lst _) => (k r S).bind fun n S => (match n, S[l]? with
      | .int j, some (.lst xs) => (match place xs.length j with
        | some m => (match xs[m]? with
          | some y => .ok y (S.set l (.lst (xs.eraseIdx m)))
          | none => .bad)
        | none => .bad)
      | _, _ => .bad)
    | _ => .bad)
  | _ => .bad) := rfl
@[simp] theorem ePopR0_ap (o : DE)  (r : Rho) (S : Store) : ePopR0 o r S = ((o r S).bind fun p S => match p with
  | .ref l => (match S[l]? with
    | some (.lst xs) => (match xs[xs.length - 1]? with
      | some y => .ok y (S.set l (.lst xs.dropLast))
      | none => .bad)
    | _ => .bad)
  | _ => .bad) := rfl
@[simp] theorem oNone_ap   (r : Rho) (S : Store) : oNone  r S = (.ok none S) := rfl
@[simp] theorem oSome_ap (a : DE)  (r : Rho) (S : Store) : oSome a r S = ((a r S).bind fun x S => match x with
  | .int i => .ok (some i) S
  | _ => .bad) := rfl
@[simp] theorem eSlice_ap (a : DL) (lo hi : DO)  (r : Rho) (S : Store) : eSlice a lo hi r S = ((a r S).bind fun c S => (lo r S).bind fun l S => (hi r S).bind fun u S => (Rs.ofO (c.get r S) S).bind fun xs S =>
  .ok (if c.isT then .tup (cutD xs l u) else .lst (cutD xs l u)) S) := rfl
@[simp] theorem nSorted_ap (a : DL)  (r : Rho) (S : Store) : nSorted a r S = ((a r S).bind fun c S => (Rs.ofO (c.get r S) S).bind fun xs S => if !c.isT && sortOk xs then .ok (sortD xs) S else .bad) := rfl
theorem eIn_ap (neg : Bool) (a : DE) (b : DL)  (r : Rho) (S : Store) : eIn neg a b r S = ((a r S).bind fun x S => (b r S).bind fun c S => (Rs.ofO (c.get r S) S).bind fun xs S =>
  if D.pl 63 x && D.pls 63 xs then .ok (.bl (if neg then !xs.any (fun z => eqD z x) else xs.any (fun z => eqD z x))) S else .bad) := rfl
@[simp] theorem eAbs_ap (a : DE)  (r : Rho) (S : Store) : eAbs a r S = ((a r S).bind fun x S => match x with
  | .int i => .ok (.int (if i < 0 then -i else i)) S
  | _ => .bad) := rfl
@[simp] theorem eInt_ap (a : DE)  (r : Rho) (S : Store) : eInt a r S = ((a r S).bind fun x S => match x with
  | .int i => .ok (.int i) S
  | .bl b => .ok (.int (if b then 1 else 0)) S
  | _ => .bad) := rfl
@[simp] theorem eMin2_ap (a b : DE)  (r : Rho) (S : Store) : eMin2 a b r S = ((a r S).bind fun x S => (b r S).bind fun y S => match x, y with
  | .int i, .int j => .ok (.int (if j < i then j else i)) S
  | _, _ => .bad) := rfl
@[simp] theorem eMax2_ap (a b : DE)  (r : Rho) (S : Store) : eMax2 a b r S = ((a r S).bind fun x S => (b r S).bind fun y S => match x, y with
  | .int i, .int j => .ok (.int (if j > i then j else i)) S
  | _, _ => .bad) := rfl
@[simp] theorem eIsTy_ap (n : String) (a : DE)  (r : Rho) (S : Store) : eIsTy n a r S = ((a r S).bind fun x S => match tyName S x with
  | some t => .ok (.bl (isTy t n)) S
  | none => .bad) := rfl
@[simp] theorem eFld_ap (cs : List Str) (f : Str) (a : DE)  (r : Rho) (S : Store) : eFld cs f a r S = ((a r S).bind fun x S => match x with
  | .ref l => (match S[l]? with
    | some (.ins c fs) => if c ∈ cs then Rs.ofO (fs.lookup f) S else .bad
    | _ => .bad)
  | _ => .bad) := rfl
@[simp] theorem eMeth_ap (c m : Str) (g : Fn) (o : DE) (a : DA)  (r : Rho) (S : Store) : eMeth c m g o a r S = ((o r S).bind fun x S => match x with
  | .ref l => (match S[l]? with
    | some (.ins k fs) => if k = c ∧ fs.lookup m = none then (a r S).bind fun xs S => g (x :: xs) S else .bad
    | _ => .bad)
  | _ => .bad) := rfl
@[simp] theorem eMake_ap (c : Str) (g : Fn) (a : DA)  (r : Rho) (S : Store) : eMake c g a r S = ((a r S).bind fun xs S => (g (.ref S.length :: xs) (S ++ [.ins c []])).bind fun v S2 => match v with
  | .non => .ok (.ref S.length) S2
  | _ => .bad) := rfl
@[simp] theorem tYesD_ap   (r : Rho) (S : Store) : tYesD  r S = (.ok true S) := rfl
theorem nLc_ap (its : DI) (g : DG) (t : DT) (e : DE) (vs : List Nat)  (r : Rho) (S : Store) : nLc its g t e vs r S = ((its r S).bind fun w S => lcGo w.ok g t e (wipeD r vs) w.xs S) := rfl
theorem iRange1_ap (a : DE)  (r : Rho) (S : Store) : iRange1 a r S = ((a r S).bind fun x S => match x with
  | .int j => if rOk j && decide (j ≤ sizeLine) then .ok (wkS (rangeD 0 j)) S else .bad
  | _ => .bad) := rfl
theorem iRange2_ap (a b : DE)  (r : Rho) (S : Store) : iRange2 a b r S = ((a r S).bind fun x S => (b r S).bind fun y S => match x, y with
  | .int i, .int j => if rOk i && rOk j && decide (j - i ≤ sizeLine) then .ok (wkS (rangeD i j)) S else .bad
  | _, _ => .bad) := rfl
@[simp] theorem iSeqD_ap (a : DE)  (r : Rho) (S : Store) : iSeqD a r S = ((a r S).bind fun x S => Rs.ofO (wkOf S x) S) := rfl
@[simp] theorem iEnumD_ap (a : DE)  (r : Rho) (S : Store) : iEnumD a r S = ((a r S).bind fun x S => match wkL S x with
  | some w => if w.xs.length ≤ sizeLine then .ok ⟨enumD 0 w.xs, w.ok⟩ S else .bad
  | none => .bad) := rfl
@[simp] theorem iZipD_ap (a b : DE)  (r : Rho) (S : Store) : iZipD a b r S = ((a r S).bind fun x S => (b r S).bind fun y S => match wkZ S x y with
  | some w => if w.xs.length ≤ sizeLine then .ok w S else .bad
  | none => .bad) := rfl
@[simp] theorem sNext_ap   (r : Rho) (S : Store) : sNext  r S = (.next r S) := rfl
@[simp] theorem sSeq_ap (a b : DS)  (r : Rho) (S : Store) : sSeq a b r S = ((a r S).bind b) := rfl
@[simp] theorem sSet_ap (i : Nat) (a : DE)  (r : Rho) (S : Store) : sSet i a r S = ((a r S).toS r fun x S => if i < r.length then .next (r.set i (.val x)) S else .bad) := rfl
@[simp] theorem sSetOwn_ap (i : Nat) (a : DA)  (r : Rho) (S : Store) : sSetOwn i a r S = ((a r S).toS r fun xs S => if i < r.length then .next (r.set i (.own xs)) S else .bad) := rfl
@[simp] theorem sAsg_ap (a : DE) (g : DG)  (r : Rho) (S : Store) : sAsg a g r S = ((a r S).toS r fun x S => match g x r S with
  | some r' => .next r' S
  | none => .bad) := rfl
@[simp] theorem sPar_ap (i j : Nat) (a b : DE)  (r : Rho) (S : Store) : sPar i j a b r S = ((a r S).toS r fun x S => (b r S).toS r fun y S => if i < r.length ∧ j < r.length then .next ((r.set i (.val x)).set j (.val y)) S else .bad) := rfl
@[simp] theorem sDrop_ap (a : DE)  (r : Rho) (S : Store) : sDrop a r S = ((a r S).toS r fun _ S => .next r S) := rfl
@[simp] theorem sRet_ap (a : DE)  (r : Rho) (S : Store) : sRet a r S = ((a r S).toS r fun x S => .ret x r S) := rfl
@[simp] theorem sRetOwn_ap (i : Nat)  (r : Rho) (S : Store) : sRetOwn i r S = (match r[i]? with
  | some (.own xs) => .ret (.lst xs) (r.set i .un) S
  | _ => .bad) := rfl
@[simp] theorem sFrz_ap (i : Nat)  (r : Rho) (S : Store) : sFrz i r S = (match r[i]? with
  | some (.own xs) => .next (r.set i (.val (.lst xs))) S
  | _ => .bad) := rfl
@[simp] theorem sRetN_ap   (r : Rho) (S : Store) : sRetN  r S = (.ret .non r S) := rfl
@[simp] theorem sIf_ap (t : DT) (a b : DS)  (r : Rho) (S : Store) : sIf t a b r S = ((t r S).toS r fun x S => if x then a r S else b r S) := rfl
@[simp] theorem sBrk_ap   (r : Rho) (S : Store) : sBrk  r S = (.brk r S) := rfl
@[simp] theorem sCnt_ap   (r : Rho) (S : Store) : sCnt  r S = (.cont r S) := rfl
@[simp] theorem sBad_ap   (r : Rho) (S : Store) : sBad  r S = (.bad) := rfl
@[simp] theorem sApp_ap (i : Nat) (a : DE)  (r : Rho) (S : Store) : sApp i a r S = (match r[i]? with
  | some (.own _) => (a r S).toS r fun x S => match r[i]? with
    | some (.own xs) => if xs.length < sizeLine then .next (r.set i (.own (xs ++ [x]))) S else .bad
    | _ => .bad
  | _ => .bad) := rfl
@[simp] theorem sPutR_ap (o k : DE) (a : DE)  (r : Rho) (S : Store) : sPutR o k a r S = ((a r S).toS r fun x S => (o r S).toS r fun p S => (k r S).toS r fun n S => match p, n with
  | .ref l, .int j => (match S[l]? with
    | some (.lst xs) => (match place xs.length j with
      | some m => .next r (S.set l (.lst (xs.set m x)))
      | none => .bad)
    | _ => .bad)
  | _, _ => .bad) := rfl
@[simp] theorem sPut_ap (i : Nat) (k : DE) (a : DE)  (r : Rho) (S : Store) : sPut i k a r S = ((a r S).toS r fun x S => match r[i]? with
  | some (.own _) => (k r S).toS r fun n S => (match n, r[i]? with
    | .int j, some (.own xs) => (match place xs.length j with
      | some m => .next (r.set i (.own (xs.set m x))) S
      | none => .bad)
    | _, _ => .bad)
  | _ => .bad) := rfl
@[simp] theorem sFldD_ap (cs : List Str) (f : Str) (o : DE) (a : DE)  (r : Rho) (S : Store) : sFldD cs f o a r S = ((a r S).toS r fun x S => (o r S).toS r fun p S => match p with
  | .ref l => (match S[l]? with
    | some (.ins c fs) => if c ∈ cs ∧ fs.length < 1000 then .next r (S.set l (.ins c (putFD f x fs))) else .bad
    | _ => .bad)
  | _ => .bad) := rfl
@[simp] theorem sAugI_ap (i : Nat) (f : Int → Int → Int) (a : DE)  (r : Rho) (S : Store) : sAugI i f a r S = (match r[i]? with
  | some (.val (.int x)) => (a r S).toS r fun y S => (match y with
    | .int j => .next (r.set i (.val (.int (f x j)))) S
    | _ => .bad)
  | _ => .bad) := rfl
@[simp] theorem sFor_ap (its : DI) (g : DG) (b : DS)  (r : Rho) (S : Store) : sFor its g b r S = ((its r S).toS r fun w S => forGo w.ok g b w.xs r S) := rfl

@[simp] theorem eLen_ap (a : DL) (r : Rho) (S : Store) : eLen a r S = ((a r S).bind fun c S => Rs.ofO ((c.get r S).bind fun xs => some (.int xs.length)) S) := rfl
@[simp] theorem eTupOf_ap (a : DL) (r : Rho) (S : Store) : eTupOf a r S = ((a r S).bind fun c S => Rs.ofO ((c.get r S).bind fun xs => some (.tup xs)) S) := rfl
@[simp] theorem eAll_ap (a : DL) (r : Rho) (S : Store) : eAll a r S = ((a r S).bind fun c S => Rs.ofO ((c.get r S).bind fun xs => if c.isT then none else (boolsOf xs).map fun bs => .bl (bs.all id)) S) := rfl
@[simp] theorem eAny_ap (a : DL) (r : Rho) (S : Store) : eAny a r S = ((a r S).bind fun c S => Rs.ofO ((c.get r S).bind fun xs => if c.isT then none else (boolsOf xs).map fun bs => .bl (bs.any id)) S) := rfl
@[simp] theorem eSum_ap (a : DL) (r : Rho) (S : Store) : eSum a r S = ((a r S).bind fun c S => Rs.ofO ((c.get r S).bind fun xs => if c.isT then none else (intsOf xs).map fun ns => .int ns.sum) S) := rfl
/-! ### values -/
@[simp] theorem srcOf_tup (S : Store) (xs : List D) : srcOf S (.tup xs) = some (.cst true xs) := rfl
@[simp] theorem srcOf_lst (S : Store) (xs : List D) : srcOf S (.lst xs) = some (.cst false xs) := rfl
theorem srcOf_ref {S : Store} {l : Nat} {xs : List D} (h : S[l]? = some (.lst xs)) : srcOf S (.ref l) = some (.loc l) := by simp [srcOf, h]
@[simp] theorem get_cst (t : Bool) (xs : List D) (r : Rho) (S : Store) : (Src.cst t xs).get r S = some xs := rfl
theorem get_loc {S : Store} {l : Nat} {xs : List D} {r : Rho} (h : S[l]? = some (.lst xs)) : (Src.loc l).get r S = some xs := by simp [Src.get, h]
@[simp] theorem isT_cst (t : Bool) (xs : List D) : (Src.cst t xs).isT = t := rfl
@[simp] theorem isT_loc (l : Nat) : (Src.loc l).isT = false := rfl
@[simp] theorem cmpEq_int (S : Store) (a b : Int) : cmpEq S (.int a) (.int b) = some (decide (a = b)) := by
  simp [cmpEq, flatL, D.pl, eqD]
  by_cases h : a = b <;> simp [h]
@[simp] theorem cmpNe_int (S : Store) (a b : Int) : cmpNe S (.int a) (.int b) = some (!decide (a = b)) := by
  simp [cmpNe, flatL, D.pl, eqD]
  by_cases h : a = b <;> simp [h]
@[simp] theorem cmpI_int (p : Int → Int → Bool) (a b : Int) : cmpI p (.int a) (.int b) = some (p a b) := rfl
@[simp] theorem opAdd_int (S : Store) (a b : Int) : opAdd S (.int a) (.int b) = some (.int (a + b)) := rfl
@[simp] theorem opSub_int (a b : Int) : opSub (.int a) (.int b) = some (.int (a - b)) := rfl
@[simp] theorem opNeg_int (a : Int) : opNeg (.int a) = some (.int (-a)) := rfl
theorem opMul_int {S : Store} {a b : Int} (h : mulOk a b = true) : opMul S (.int a) (.int b) = some (.int (a * b)) := by simp [opMul, h]
theorem opDiv_int {a b : Int} (h : 0 < b) (h2 : b < 1073741824) : opDiv (.int a) (.int b) = some (.int (a / b)) := by simp [opDiv, h, h2]
theorem opMod_int {a b : Int} (h : 0 < b) : opMod (.int a) (.int b) = some (.int (a % b)) := by simp [opMod, h]
theorem mulOk_l {a b : Int} (h1 : -(2 ^ 64) < a) (h2 : a < 2 ^ 64) : mulOk a b = true := by simp [mulOk]; left; exact ⟨h1, h2⟩
theorem mulOk_r {a b : Int} (h1 : -(2 ^ 64) < b) (h2 : b < 2 ^ 64) : mulOk a b = true := by simp [mulOk]; right; exact ⟨h1, h2⟩
theorem set_get {S : Store} {h : Nat} (o : SO) (hl : h < S.length) : (S.set h o)[h]? = some o := by simp [hl]
theorem set_get_ne {S : Store} {h k : Nat} (o : SO) (ne : h ≠ k) : (S.set h o)[k]? = S[k]? := by simp [ne]
theorem lt_of_get {S : Store} {h : Nat} {o : SO} (e : S[h]? = some o) : h < S.length := (List.getElem?_eq_some_iff.mp e).1
@[simp] theorem sizeLine_val : sizeLine = 16777216 := by decide
@[simp] theorem wkS_ok (xs : List D) : (wkS xs).ok = fun _ => True := rfl
@[simp] theorem wkS_xs (xs : List D) : (wkS xs).xs = xs := rfl
/-! ### the drawing of numbers, as many laws write it -/
def handO (gs : List Int) (p d s c : Int) : SO := .lst [.lst (gs.map D.int), .int p, .int d, .int s, .int c]
/-- the hand stands at h -/
def HandOk (S : Store) (h : Nat) : Prop := ∃ (gs : List Int) (p : Nat) (d s c : Int), S[h]? = some (handO gs p d s c) ∧ 0 ≤ d ∧ ∀ g ∈ gs, 0 ≤ g
def draw1 : DS := sIf (tAndD (tOfB (eCmp cmpEq (eIx (lE (eVar 0)) (eC (.int 2))) (eC (.int 0)))) (tOfB (eCmp (fun _ => cmpI iLt) (eIx (lE (eVar 0)) (eC (.int 1))) (eLen (lE (eIx (lE (eVar 0)) (eC (.int 0)))))))) (sSeq (sSet 2 (eIx (lE (eIx (lE (eVar 0)) (eC (.int 0)))) (eIx (lE (eVar 0)) (eC (.int 1))))) (sSeq (sPutR (eVar 0) (eC (.int 1)) (eOp opAdd (eIx (lE (eVar 0)) (eC (.int 1))) (eC (.int 1)))) (sSeq (sPutR (eVar 0) (eC (.int 3)) (eOp (fun _ => opMod) (eInt (eOp opAdd (eOp opAdd (eOp opMul (eIx (lE (eVar 0)) (eC (.int 3))) (eC (.int 69621))) (eVar 2)) (eC (.int 11)))) (eC (.int 2147483629)))) (sIf (tOfB (eCmp (fun _ => cmpI iGe) (eVar 2) (eOp (fun _ => opPow) (eC (.int 10)) (eC (.int 18))))) (sPutR (eVar 0) (eC (.int 2)) (eVar 2)) (sNext))))) (sNext)
def draw2 : DS := sIf (tOfB (eCmp (fun _ => cmpI iGt) (eIx (lE (eVar 0)) (eC (.int 2))) (eC (.int 0)))) (sSeq (sSet 3 (eOp (fun _ => opMod) (eInt (eIx (lE (eVar 0)) (eC (.int 2)))) (eVar 1))) (sSeq (sPutR (eVar 0) (eC (.int 2)) (eOp (fun _ => opDiv) (eIx (lE (eVar 0)) (eC (.int 2))) (eVar 1))) (sRet (eVar 3)))) (sNext)
def draw3 : DS := sSeq (sPutR (eVar 0) (eC (.int 4)) (eOp opAdd (eIx (lE (eVar 0)) (eC (.int 4))) (eC (.int 1)))) (sSeq (sSet 4 (eOp (fun _ => opMod) (eInt (eOp opMul (eInt (eOp opAdd (eIx (lE (eVar 0)) (eC (.int 3))) (eOp opMul (eC (.int 7919)) (eIx (lE (eVar 0)) (eC (.int 4)))))) (eC (.int 48271)))) (eC (.int 2147483647)))) (sSeq (sSet 4 (eOp (fun _ => opMod) (eInt (eOp opMul (eVar 4) (eOp opAdd (eOp (fun _ => opDiv) (eVar 4) (eC (.int 1009))) (eC (.int 69621))))) (eC (.int 2147483647)))) (sSeq (sSet 4 (eOp (fun _ => opMod) (eInt (eOp opMul (eVar 4) (eOp opAdd (eOp (fun _ => opDiv) (eVar 4) (eC (.int 2003))) (eC (.int 40692))))) (eC (.int 2147483399)))) (sRet (eOp (fun _ => opMod) (eInt (eOp (fun _ => opDiv) (eVar 4) (eC (.int 16)))) (eVar 1))))))
def drawF : Fn := fnD 2 5 (sSeq draw1 (sSeq draw2 draw3))
@[simp] theorem hand_at0 (gs : List Int) (p d s c : Int) : atD [.lst (gs.map D.int), .int p, .int d, .int s, .int c] 0 = some (.lst (gs.map D.int)) := rfl
@[simp] theorem hand_at1 (x : D) (p d s c : Int) : atD [x, .int p, .int d, .int s, .int c] 1 = some (.int p) := rfl
@[simp] theorem hand_at2 (x : D) (p d s c : Int) : atD [x, .int p, .int d, .int s, .int c] 2 = some (.int d) := rfl
@[simp] theorem hand_at3 (x : D) (p d s c : Int) : atD [x, .int p, .int d, .int s, .int c] 3 = some (.int s) := rfl
@[simp] theorem hand_at4 (x : D) (p d s c : Int) : atD [x, .int p, .int d, .int s, .int c] 4 = some (.int c) := rfl
theorem atD_nat {xs : List D} {i : Nat} {d : D} (h : xs[i]? = some d) : atD xs (i : Int) = some d := by
  have hl : i < xs.length := (List.getElem?_eq_some_iff.mp h).1
  have e : xs[i] = d := by
    rw [List.getElem?_eq_getElem hl] at h
    exact Option.some.inj h
  simp [atD, place, hl, e]
theorem place_nat {n i : Nat} (h : i < n) : place n (i : Int) = some i := by simp [place, h]
theorem place_lt {n : Nat} {i : Int} (h0 : 0 ≤ i) (h : i < n) : place n i = some i.toNat := by simp [place, h0, h]
theorem set_same {S : Store} {h : Nat} {o : SO} (e : S[h]? = some o) : S.set h o = S := by
  apply List.ext_getElem?
  intro i
  by_cases q : h = i
  · subst q
    rw [set_get o (lt_of_get e), e]
  · rw [set_get_ne o q]
theorem draw1_ok {S : Store} {h : Nat} {gs : List Int} {p : Nat} {d s c many : Int} (hS : S[h]? = some (handO gs p d s c)) (hd : 0 ≤ d) (hg : ∀ g ∈ gs, 0 ≤ g) :
    ∃ (x : Sl) (p' : Nat) (d' s' : Int), draw1 [.val (.ref h), .val (.int many), .un, .un, .un] S = .next [.val (.ref h), .val (.int many), x, .un, .un] (S.set h (handO gs p' d' s' c)) ∧ 0 ≤ d' := by
  have hl := lt_of_get hS
  have hS' : S[h]? = some (.lst [.lst (gs.map D.int), .int p, .int d, .int s, .int c]) := hS
  by_cases hc : d = 0 ∧ p < gs.length
  · obtain ⟨rfl, hp⟩ := hc
    have hg2 : (gs.map D.int)[p]? = some (.int gs[p]) := by simp [hp]
    have hg3 := atD_nat hg2
    have m1 : opMul S (.int s) (.int 69621) = some (.int (s * 69621)) := opMul_int (mulOk_r (by decide) (by decide))
    have hp2 : (p : Int) < gs.length := by omega
    by_cases hb : (1000000000000000000 : Int) ≤ gs[p]
    · refine ⟨.val (.int gs[p]), p + 1, gs[p], (s * 69621 + gs[p] + 11) % 2147483629, ?_, by omega⟩
      simp [draw1, srcOf, Src.get, hS', set_get _ hl, hp2, hg3, opMul_int (mulOk_r (a := s) (b := 69621) (by decide) (by decide)), opMod, place, opPow, hb, handO]
    · refine ⟨.val (.int gs[p]), p + 1, 0, (s * 69621 + gs[p] + 11) % 2147483629, ?_, by omega⟩
      simp [draw1, srcOf, Src.get, hS', set_get _ hl, hp2, hg3, opMul_int (mulOk_r (a := s) (b := 69621) (by decide) (by decide)), opMod, place, opPow, hb, handO]
  · refine ⟨.un, p, d, s, ?_, hd⟩
    rw [set_same hS]
    by_cases h0 : d = 0
    · subst h0
      have hp2 : ¬ ((p : Int) < gs.length) := by omega
      simp [draw1, srcOf, Src.get, hS', hp2]
    · simp [draw1, srcOf, Src.get, hS', h0]
theorem draw2_ok {S : Store} {h : Nat} {gs : List Int} {p d s c many : Int} {x : Sl} (hS : S[h]? = some (handO gs p d s c)) (hd : 0 < d) (h1 : 1 ≤ many) (h2 : many < 1073741824) :
    draw2 [.val (.ref h), .val (.int many), x, .un, .un] S = .ret (.int (d % many)) [.val (.ref h), .val (.int many), x, .val (.int (d % many)), .un] (S.set h (handO gs p (d / many) s c)) := by
  have hl := lt_of_get hS
  have hS' : S[h]? = some (.lst [.lst (gs.map D.int), .int p, .int d, .int s, .int c]) := hS
  have h1' : 0 < many := by omega
  simp [draw2, srcOf, Src.get, hS', set_get _ hl, opMod, opDiv, place, hd, h1', h2, handO]
theorem draw2_no {S : Store} {h : Nat} {gs : List Int} {p d s c many : Int} {x : Sl} (hS : S[h]? = some (handO gs p d s c)) (hd : ¬ 0 < d) :
    draw2 [.val (.ref h), .val (.int many), x, .un, .un] S = .next [.val (.ref h), .val (.int many), x, .un, .un] S := by
  have hS' : S[h]? = some (.lst [.lst (gs.map D.int), .int p, .int d, .int s, .int c]) := hS
  simp [draw2, srcOf, Src.get, hS', hd]
theorem draw3_ok {S : Store} {h : Nat} {gs : List Int} {p d s c many : Int} {x : Sl} (hS : S[h]? = some (handO gs p d s c)) (h1 : 1 ≤ many) :
    ∃ (v : Int) (r : Rho), draw3 [.val (.ref h), .val (.int many), x, .un, .un] S = .ret (.int (v % many)) r (S.set h (handO gs p d s (c + 1))) := by
  have hl := lt_of_get hS
  have hS' : S[h]? = some (.lst [.lst (gs.map D.int), .int p, .int d, .int s, .int c]) := hS
  have h1' : 0 < many := by omega
  have e1 : ∀ (S : Store) (a : Int), opMul S (.int a) (.int 48271) = some (.int (a * 48271)) := fun S a => opMul_int (mulOk_r (by decide) (by decide))
  have e2 : ∀ (S : Store) (a : Int), opMul S (.int 7919) (.int a) = some (.int (7919 * a)) := fun S a => opMul_int (mulOk_l (by decide) (by decide))
  have e3 : ∀ (S : Store) (a b : Int), opMul S (.int (a % 2147483647)) (.int b) = some (.int (a % 2147483647 * b)) := fun S a b => opMul_int (mulOk_l (by omega) (by omega))
  simp [draw3, srcOf, Src.get, hS', set_get _ hl, opMod, opDiv, place, h1', handO, e1, e2, e3]
  exact ⟨_, rfl⟩
theorem set_set {S : Store} {h : Nat} {a b : SO} : (S.set h a).set h b = S.set h b := by simp
/-- a number is drawn: below many; only the hand changes -/
theorem draw_ok {S : Store} {h : Nat} {many : Int} (hS : HandOk S h) (h1 : 1 ≤ many) (h2 : many < 1073741824) :
    ∃ (v : Int) (o : SO), drawF [.ref h, .int many] S = .ok (.int v) (S.set h o) ∧ HandOk (S.set h o) h ∧ 0 ≤ v ∧ v < many := by
  obtain ⟨gs, p, d, s, c, hS, hd, hg⟩ := hS
  have hl := lt_of_get hS
  obtain ⟨x, p', d', s', e1, hd'⟩ := draw1_ok (many := many) hS hd hg
  have hS1 : (S.set h (handO gs p' d' s' c))[h]? = some (handO gs p' d' s' c) := set_get _ hl
  by_cases hp : 0 < d'
  · refine ⟨d' % many, handO gs p' (d' / many) s' c, ?_, ⟨gs, p', d' / many, s', c, set_get _ hl, Int.ediv_nonneg hd' (by omega), hg⟩, Int.emod_nonneg _ (by omega), Int.emod_lt_of_pos _ (by omega)⟩
    have e2 := draw2_ok (x := x) hS1 hp h1 h2
    rw [set_set] at e2
    simp [drawF, fnD, e1, e2]
  · have e2 := draw2_no (x := x) (many := many) hS1 hp
    obtain ⟨v, r, e3⟩ := draw3_ok (x := x) hS1 h1
    rw [set_set] at e3
    refine ⟨v % many, handO gs p' d' s' (c + 1), ?_, ⟨gs, p', d', s', c + 1, set_get _ hl, hd', hg⟩, Int.emod_nonneg _ (by omega), Int.emod_lt_of_pos _ (by omega)⟩
    simp [drawF, fnD, e1, e2, e3]
/-- _law_hand: the hand of a script -/
noncomputable def handF : Fn := fnD 1 3 (sSeq (sSet 1 (eFrz (nLc (iSeqD (eSlice (lE (eVar 0)) oNone (oSome (eC (.int 63))))) (gNameD 2) (tYesD) (eAbs (eInt (eVar 2))) [2]))) (sRet (eNew (nLst (aCons (eVar 1) (aCons (eC (.int 0)) (aCons (eC (.int 0)) (aCons (eOp opAdd (eC (.int 1)) (eLen (lE (eVar 1)))) (aCons (eC (.int 0)) (aNil))))))))))
/-- a comprehension whose turns change nothing -/
theorem lcGo_pure {ok : Store → Prop} {g : DG} {t : DT} {e : DE} {r : Rho} {S : Store} (hok : ok S) {xs : List D} {ys : List D} (hl : ys.length = xs.length)
    (h : ∀ (i : Nat) (x y : D), xs[i]? = some x → ys[i]? = some y → ∃ r', g x r S = some r' ∧ t r' S = .ok true S ∧ e r' S = .ok y S) : lcGo ok g t e r xs S = .ok ys S := by
  induction xs generalizing ys with
  | nil =>
    cases ys with
    | nil => simp [lcGo, hok]
    | cons _ _ => simp at hl
  | cons x xs ih =>
    cases ys with
    | nil => simp at hl
    | cons y ys =>
      obtain ⟨r', h1, h2, h3⟩ := h 0 x y rfl rfl
      have := ih (ys := ys) (by simpa using hl) fun i a b ha hb => h (i + 1) a b (by simpa using ha) (by simpa using hb)
      simp [lcGo, hok, h1, h2, h3, this]
theorem get_map {a b : Type} {f : a → b} {xs : List a} {i : Nat} {y : b} (h : (xs.map f)[i]? = some y) : ∃ x, xs[i]? = some x ∧ y = f x := by
  rw [List.getElem?_map] at h
  cases q : xs[i]? with
  | none => rw [q] at h; cases h
  | some x => rw [q] at h; cases h; exact ⟨x, rfl, rfl⟩
theorem hand_ok {ns : List Int} {S : Store} : ∃ gs c, handF [.lst (ns.map D.int)] S = .ok (.ref S.length) (S ++ [handO gs (0 : Nat) 0 c 0]) ∧ ∀ g ∈ gs, 0 ≤ g := by
  have cut : ∃ ms : List Int, cutD (ns.map D.int) none (some 63) = ms.map D.int := ⟨(ns.drop 0).take (min 63 ns.length - 0), by simp [cutD, cutAt]⟩
  obtain ⟨ms, hm⟩ := cut
  refine ⟨ms.map fun i => if i < 0 then -i else i, 1 + (ms.length : Int), ?_, fun g hg => ?_⟩
  · have lc : lcGo (fun _ => True) (gNameD 2) tYesD (eAbs (eInt (eVar 2))) [.val (.lst (ns.map D.int)), .un, .un] (ms.map D.int) S = .ok ((ms.map fun i => if i < 0 then -i else i).map D.int) S := by
      refine lcGo_pure trivial (by simp) fun i x y hx hy => ?_
      obtain ⟨k, e1, rfl⟩ := get_map hx
      obtain ⟨k2, e2, rfl⟩ := get_map hy
      obtain ⟨k3, e3, rfl⟩ := get_map e2
      rw [e1] at e3
      cases e3
      exact ⟨[.val (.lst (ns.map D.int)), .un, .val (.int k)], by simp [gNameD], by simp [tYesD], by simp⟩
    simp only [List.map_map] at lc
    simp [handF, fnD, hm, wkOf, wipeD, lc, handO, nLc_ap]
  · simp only [List.mem_map] at hg
    obtain ⟨i, _, rfl⟩ := hg
    split <;> omega
end Dn
namespace Dn
open PySem
theorem lcGo_new {ok : Store → Prop} {g : DG} {t : DT} {e : DE} {r : Rho} : ∀ (xs : List D) (os : List SO) (S : Store), os.length = xs.length → (∀ k, k ≤ os.length → ok (S ++ os.take k)) →
    (∀ (i : Nat) (x : D) (o : SO), xs[i]? = some x → os[i]? = some o → ∃ r', g x r (S ++ os.take i) = some r' ∧ t r' (S ++ os.take i) = .ok true (S ++ os.take i) ∧ e r' (S ++ os.take i) = .ok (.ref (S.length + i)) ((S ++ os.take i) ++ [o])) →
    lcGo ok g t e r xs S = .ok ((List.range xs.length).map fun i => D.ref (S.length + i)) (S ++ os)
  | [], os, S, hl, hok, h => by
    have : os = [] := by cases os with
      | nil => rfl
      | cons _ _ => simp at hl
    subst this
    have := hok 0 (Nat.le_refl _)
    simp at this
    simp [lcGo, this]
  | x :: xs, os, S, hl, hok, h => by
    cases os with
    | nil => simp at hl
    | cons o os =>
      obtain ⟨r', h1, h2, h3⟩ := h 0 x o rfl rfl
      have h0 := hok 0 (Nat.zero_le _)
      simp at h0 h1 h2 h3
      have ih := lcGo_new (ok := ok) (g := g) (t := t) (e := e) (r := r) xs os (S ++ [o]) (by simpa using hl) (fun k hk => by simpa using hok (k + 1) (by simpa using hk)) fun i a b ha hb => by
        have := h (i + 1) a b (by simpa using ha) (by simpa using hb)
        simpa [Nat.add_assoc, Nat.add_comm 1 i] using this
      simp [lcGo, h0, h1, h2, h3, ih, List.range_succ_eq_map, Function.comp_def, Nat.add_assoc, Nat.add_comm 1]
/-- a loop whose turns keep P -/
theorem forGo_inv {ok : Store → Prop} {g : DG} {b : DS} (P : Nat → Rho → Store → Prop) : ∀ (xs : List D) (k : Nat) (r : Rho) (S : Store), P k r S → (∀ i r S, P i r S → ok S) →
    (∀ (i : Nat) (x : D) (r : Rho) (S : Store), xs[i]? = some x → P (k + i) r S → ∃ r', g x r S = some r' ∧ ∃ r2 S2, (b r' S = .next r2 S2 ∨ b r' S = .cont r2 S2) ∧ P (k + i + 1) r2 S2) →
    ∃ r' S', forGo ok g b xs r S = .next r' S' ∧ P (k + xs.length) r' S'
  | [], k, r, S, h, hok, _ => ⟨r, S, by simp [forGo, hok k r S h], h⟩
  | x :: xs, k, r, S, h, hok, st => by
    obtain ⟨r', h1, r2, S2, h2, h3⟩ := st 0 x r S rfl h
    obtain ⟨r3, S3, h4, h5⟩ := forGo_inv P xs (k + 1) r2 S2 (by simpa using h3) hok fun i y r S hy hp => by
      have := st (i + 1) y r S (by simpa using hy) (by simpa [Nat.add_assoc, Nat.add_comm 1] using hp)
      simpa [Nat.add_assoc, Nat.add_comm 1] using this
    refine ⟨r3, S3, ?_, by simpa [Nat.add_assoc, Nat.add_comm 1] using h5⟩
    rcases h2 with h2 | h2 <;> simp [forGo, hok k r S h, h1, h2, h4]
theorem rOk_nat {n : Nat} (h : n ≤ 1000000) : rOk (n : Int) = true := by
  simp only [rOk, Bool.and_eq_true, decide_eq_true_eq]
  constructor
  · have : (-(2 ^ 62) : Int) ≤ 0 := by decide
    omega
  · have : (1000001 : Int) ≤ 2 ^ 62 := by decide
    omega
theorem le_line {n : Nat} (h : n ≤ 1000000) : (n : Int) ≤ (sizeLine : Nat) := Int.ofNat_le.mpr (Nat.le_trans h (by rw [sizeLine_val]; omega))
theorem iRange1_at {a : DE} {r : Rho} {S S' : Store} {j : Int} (h : rOk j = true) (h2 : j ≤ (sizeLine : Nat)) (e : a r S = .ok (.int j) S') : iRange1 a r S = .ok (wkS (rangeD 0 j)) S' := by
  rw [iRange1_ap, e, Rs.bind_ok]
  dsimp only
  rw [if_pos (by rw [Bool.and_eq_true]; exact ⟨h, decide_eq_true h2⟩)]
theorem iRange1_nat {a : DE} {r : Rho} {S S' : Store} {n : Nat} (h : n ≤ 1000000) (e : a r S = .ok (.int n) S') : iRange1 a r S = .ok (wkS (rangeD 0 n)) S' := iRange1_at (rOk_nat h) (le_line h) e
theorem rangeD_nat (n : Nat) : rangeD 0 n = (List.range n).map fun (i : Nat) => D.int i := by simp [rangeD]
/-! ### steps, one after another -/
section
variable {r r' : Rho} {S S' S2 : Store} {a b : DS} {e f : DE} {t : DT} {v w : D} {xs : List D} {as : DA} {m : Fn}
theorem seq_next (h : a r S = .next r' S') : sSeq a b r S = b r' S' := by rw [sSeq_ap, h, Sr.bind_next]
theorem seq_ret (h : a r S = .ret v r' S') : sSeq a b r S = .ret v r' S' := by rw [sSeq_ap, h, Sr.bind_ret]
theorem if_t (h : t r S = .ok true S') : sIf t a b r S = a r S' := by rw [sIf_ap, h, Rs.toS_ok, if_pos rfl]
theorem if_f (h : t r S = .ok false S') : sIf t a b r S = b r S' := by rw [sIf_ap, h, Rs.toS_ok, if_neg Bool.false_ne_true]
theorem drop_at (h : e r S = .ok v S') : sDrop e r S = .next r S' := by rw [sDrop_ap, h, Rs.toS_ok]
theorem ret_at (h : e r S = .ok v S') : sRet e r S = .ret v r S' := by rw [sRet_ap, h, Rs.toS_ok]
theorem set_at {i : Nat} (h : e r S = .ok v S') (hi : i < r.length) : sSet i e r S = .next (r.set i (.val v)) S' := by rw [sSet_ap, h, Rs.toS_ok, if_pos hi]
theorem call_at (h : as r S = .ok xs S') (k : m xs S' = .ok v S2) : eCall m as r S = .ok v S2 := by rw [eCall_ap, h, Rs.bind_ok, k]
theorem new_at (h : as r S = .ok xs S') : eNew as r S = .ok (.ref S'.length) (S' ++ [.lst xs]) := by rw [eNew_ap, h, Rs.bind_ok]
theorem frz_at (h : as r S = .ok xs S') : eFrz as r S = .ok (.lst xs) S' := by rw [eFrz_ap, h, Rs.bind_ok]
theorem cons_at (h : e r S = .ok v S') (k : as r S' = .ok xs S2) : aCons e as r S = .ok (v :: xs) S2 := by rw [aCons_ap, h, Rs.bind_ok, k, Rs.bind_ok]
theorem nil_at : aNil r S = .ok [] S := rfl
theorem op_at {f : Store → D → D → Option D} {e1 e2 : DE} {x y z : D} (h1 : e1 r S = .ok x S') (h2 : e2 r S' = .ok y S2) (h3 : f S2 x y = some z) : eOp f e1 e2 r S = .ok z S2 := by rw [eOp_ap, h1, Rs.bind_ok, h2, Rs.bind_ok, h3, Rs.ofO_some]
theorem meth_at {c mn : Str} {o : DE} {l : Nat} {fs : List (Str × D)} (h1 : o r S = .ok (.ref l) S') (h2 : S'[l]? = some (.ins c fs)) (h3 : fs.lookup mn = none) (h4 : as r S' = .ok xs S2) : eMeth c mn m o as r S = m (.ref l :: xs) S2 := by
  rw [eMeth_ap, h1, Rs.bind_ok]
  dsimp only
  rw [h2]
  dsimp only
  rw [if_pos ⟨rfl, h3⟩, h4, Rs.bind_ok]
theorem make_at {c : Str} {S3 : Store} (h : as r S = .ok xs S') (k : m (.ref S'.length :: xs) (S' ++ [.ins c []]) = .ok .non S3) : eMake c m as r S = .ok (.ref S'.length) S3 := by rw [eMake_ap, h, Rs.bind_ok, k, Rs.bind_ok]
theorem lc_at {its : DI} {g : DG} {vs : List Nat} {wk : Wk} {ys : List D} (h : its r S = .ok wk S') (k : lcGo wk.ok g t e (wipeD r vs) wk.xs S' = .ok ys S2) : nLc its g t e vs r S = .ok ys S2 := by
  rw [nLc_ap, h, Rs.bind_ok, k]
theorem fld_at {cs : List Str} {c f : Str} {o : DE} {l : Nat} {fs : List (Str × D)} (h1 : o r S = .ok (.ref l) S') (h2 : S'[l]? = some (.ins c fs)) (hc : c ∈ cs) (h3 : fs.lookup f = some v) : eFld cs f o r S = .ok v S' := by
  rw [eFld_ap, h1, Rs.bind_ok]
  dsimp only
  rw [h2]
  dsimp only
  rw [if_pos hc, h3, Rs.ofO_some]
theorem put_at {o k : DE} {S3 : Store} {l m : Nat} {j : Int} {ys : List D} (h1 : e r S = .ok v S') (h2 : o r S' = .ok (.ref l) S2) (h3 : k r S2 = .ok (.int j) S3) (h4 : S3[l]? = some (.lst ys)) (h5 : place ys.length j = some m) : sPutR o k e r S = .next r (S3.set l (.lst (ys.set m v))) := by
  rw [sPutR_ap, h1, Rs.toS_ok, h2, Rs.toS_ok, h3, Rs.toS_ok]
  dsimp only
  rw [h4]
  dsimp only
  rw [h5]
theorem sfld_at {cs : List Str} {c f : Str} {o : DE} {l : Nat} {fs : List (Str × D)} (h1 : e r S = .ok v S') (h2 : o r S' = .ok (.ref l) S2) (h3 : S2[l]? = some (.ins c fs)) (h4 : c ∈ cs) (h5 : fs.length < 1000) : sFldD cs f o e r S = .next r (S2.set l (.ins c (putFD f v fs))) := by
  rw [sFldD_ap, h1, Rs.toS_ok, h2, Rs.toS_ok]
  dsimp only
  rw [h3]
  dsimp only
  rw [if_pos ⟨h4, h5⟩]
theorem var_at {i : Nat} {d : D} (h : r[i]? = some (.val d)) : eVar i r S = .ok d S := by rw [eVar_ap, h]
theorem app_at {o : DE} {l : Nat} {ys zs : List D} (h1 : o r S = .ok (.ref l) S') (h2 : S'[l]? = some (.lst ys)) (h3 : e r S' = .ok v S2) (h4 : S2[l]? = some (.lst zs)) (h5 : zs.length < sizeLine) : eAppR o e r S = .ok .non (S2.set l (.lst (zs ++ [v]))) := by
  rw [eAppR_ap, h1, Rs.bind_ok]
  dsimp only
  rw [h2]
  dsimp only
  rw [h3, Rs.bind_ok, h4]
  dsimp only
  rw [if_pos h5]
theorem fnD_next {np n : Nat} {b : DS} {ds : List D} {S S2 : Store} {r : Rho} (h : ds.length = np) (e : b (ds.map Sl.val ++ List.replicate (n - np) Sl.un) S = .next r S2) : fnD np n b ds S = .ok .non S2 := by
  unfold fnD
  rw [if_pos h, e]
theorem fnD_ret {np n : Nat} {b : DS} {ds : List D} {S S2 : Store} {r : Rho} {d : D} (h : ds.length = np) (e : b (ds.map Sl.val ++ List.replicate (n - np) Sl.un) S = .ret d r S2) : fnD np n b ds S = .ok d S2 := by
  unfold fnD
  rw [if_pos h, e]
end
end Dn

set_option Elab.async false
set_option linter.all false
set_option maxRecDepth 100000
set_option maxHeartbeats 4000000
namespace L07
open PySem Dn
abbrev Key := Int × Int
def keyD (k : Key) : D := .tup [.int k.1, .int k.2]
/-! ### keys: their order -/
def klt (a b : Key) : Bool := decide (a.1 < b.1) || (decide (a.1 = b.1) && decide (a.2 < b.2))
theorem klt_iff {a b : Key} : klt a b = true ↔ a.1 < b.1 ∨ (a.1 = b.1 ∧ a.2 < b.2) := by simp [klt]
theorem lt_key (a b : Key) : ltD (keyD a) (keyD b) = klt a b := by
  have al : ∀ i j : Int, PySem.W.alike (.int i) (.int j) = true := fun _ _ => rfl
  have eq : ∀ i j : Int, PyData.eqv (.int i) (.int j) = (i == j) := fun _ _ => rfl
  show PySem.W.dataLt (.tuple [.int a.1, .int a.2]) (.tuple [.int b.1, .int b.2]) = _
  rw [PySem.W.dataLt_tuple]
  by_cases h : a.1 = b.1
  · rw [PySem.W.dataLt_all_yes (al _ _) (by rw [eq]; simp [h])]
    by_cases h2 : a.2 = b.2
    · rw [PySem.W.dataLt_all_yes (al _ _) (by rw [eq]; simp [h2])]
      have : klt a b = false := by
        cases q : klt a b with
        | false => rfl
        | true => rw [klt_iff] at q; omega
      rw [this]
      rfl
    · rw [PySem.W.dataLt_all_no (al _ _) (by rw [eq]; simp [h2]), PySem.W.dataLt_int]
      simp [klt, h]
  · rw [PySem.W.dataLt_all_no (al _ _) (by rw [eq]; simp [h]), PySem.W.dataLt_int]
    simp [klt, h]
theorem ltOk_key (a b : Key) : ltOk (keyD a) (keyD b) = true := by
  simp [ltOk, keyD, D.pl, D.pls, D.P, D.Ps, PySem.W.alike, PySem.W.alikeAll]
theorem cmpLt_key (a b : Key) : cmpLt (keyD a) (keyD b) = some (klt a b) := by
  simp only [cmpLt, ltOk_key, if_true, lt_key]
theorem sortOk_key (r : List Key) : sortOk (r.map keyD) = true := by
  unfold sortOk aliker
  simp only [Bool.and_eq_true, List.all_eq_true, Bool.or_eq_true, List.mem_map]
  refine ⟨⟨⟨?_, ?_⟩, ?_⟩, .inl ?_⟩
  · rintro _ ⟨a, _, rfl⟩
    simp [keyD, D.pl, D.pls]
  · rintro _ ⟨a, _, rfl⟩ _ ⟨b, _, rfl⟩
    simp [keyD, D.P, D.Ps, PySem.W.alike, PySem.W.alikeAll]
  · rintro _ ⟨a, _, rfl⟩
    rfl
  · rintro _ ⟨a, _, rfl⟩
    rfl
/-- a key put into its place -/
def insK : List Key → Key → List Key
  | [], k => [k]
  | a :: r, k => if klt a k then a :: insK r k else k :: a :: r
def Srt (r : List Key) : Prop := r.Pairwise fun a b => klt a b = true
theorem klt_trans {a b c : Key} (h : klt a b = true) (k : klt b c = true) : klt a c = true := by
  rw [klt_iff] at *
  omega
theorem ins_perm (r : List Key) (k : Key) : (insK r k).Perm (r ++ [k]) := by
  induction r with
  | nil => exact List.Perm.refl _
  | cons a r ih =>
    unfold insK
    split
    · exact List.Perm.cons a ih
    · exact (List.perm_append_comm (l₁ := [k]) (l₂ := a :: r))
theorem ins_srt {r : List Key} {k : Key} (h : Srt r) (hk : ∀ a ∈ r, a.2 ≠ k.2) : Srt (insK r k) := by
  induction r with
  | nil => exact List.pairwise_singleton _ _
  | cons a r ih =>
    obtain ⟨h1, h2⟩ := List.pairwise_cons.mp h
    unfold insK
    split
    · rename_i hak
      refine List.pairwise_cons.mpr ⟨fun b hb => ?_, ih h2 fun b hb => hk b (List.mem_cons_of_mem _ hb)⟩
      have := (ins_perm r k).mem_iff.mp hb
      rcases List.mem_append.mp this with q | q
      · exact h1 b q
      · have : b = k := by simpa using q
        rw [this]; exact hak
    · rename_i hak
      have hka : klt k a = true := by
        have hne := hk a (List.mem_cons_self ..)
        rw [klt_iff] at *
        omega
      refine List.pairwise_cons.mpr ⟨fun b hb => ?_, h⟩
      rcases List.mem_cons.mp hb with q | q
      · rw [q]; exact hka
      · exact klt_trans hka (h1 b q)
def kle (a b : Key) : Bool := !klt b a
theorem sort_ins {r : List Key} {k : Key} (h : Srt r) (hk : ∀ a ∈ r, a.2 ≠ k.2) : (r ++ [k]).mergeSort kle = insK r k := by
  have tr : ∀ a b c : Key, kle a b = true → kle b c = true → kle a c = true := fun a b c h1 h2 => by
    unfold kle at *
    simp only [Bool.not_eq_true', Bool.eq_false_iff, ne_eq, klt_iff] at *
    omega
  have to : ∀ a b : Key, (kle a b || kle b a) = true := fun a b => by
    unfold kle
    cases h1 : klt b a with
    | false => rfl
    | true =>
      cases h2 : klt a b with
      | false => rfl
      | true => rw [klt_iff] at h1 h2; omega
  have s1 : ((r ++ [k]).mergeSort kle).Pairwise fun a b => kle a b = true := List.pairwise_mergeSort tr to _
  have s2 : (insK r k).Pairwise fun a b => kle a b = true := (ins_srt h hk).imp fun {a b} h => by
    unfold kle
    cases h2 : klt b a with
    | false => rfl
    | true => rw [klt_iff] at h h2; omega
  have anti : ∀ a b : Key, kle a b = true → kle b a = true → a = b := fun a b h1 h2 => by
    unfold kle at h1 h2
    simp only [Bool.not_eq_true', Bool.eq_false_iff, ne_eq, klt_iff] at h1 h2
    exact Prod.ext (by omega) (by omega)
  exact List.Perm.eq_of_pairwise (fun a b _ _ => anti a b) s1 s2 ((List.mergeSort_perm _ _).trans (ins_perm r k).symm)
theorem sortD_ins {r : List Key} {k : Key} (h : Srt r) (hk : ∀ a ∈ r, a.2 ≠ k.2) : sortD (r.map keyD ++ [keyD k]) = (insK r k).map keyD := by
  have e : r.map keyD ++ [keyD k] = (r ++ [k]).map keyD := by simp
  rw [e, ← sort_ins h hk]
  unfold sortD
  exact (PySem.W.sort_maps keyD fun a _ b _ => by
    show kle a b = !PySem.W.dataLt (keyD b).P (keyD a).P
    unfold kle
    rw [← lt_key]
    rfl).symm
/-- the law's own way -/
theorem ins_take {r : List Key} {k : Key} (h : Srt r) : r.take (r.filter fun a => klt a k).length ++ [k] ++ r.drop (r.filter fun a => klt a k).length = insK r k := by
  induction r with
  | nil => rfl
  | cons a r ih =>
    obtain ⟨h1, h2⟩ := List.pairwise_cons.mp h
    unfold insK
    cases q : klt a k with
    | true =>
      have := ih h2
      simp only [List.filter_cons, q, if_true, List.length_cons, List.take_succ_cons, List.drop_succ_cons, List.cons_append]
      rw [this]
    | false =>
      have none : (a :: r).filter (fun a => klt a k) = [] := by
        rw [List.filter_eq_nil_iff]
        intro b hb
        rcases List.mem_cons.mp hb with z | z
        · rw [z, q]; exact Bool.false_ne_true
        · intro hbk
          rw [klt_trans (h1 b z) hbk] at q
          cases q
      rw [none]
      simp
end L07

set_option Elab.async false
set_option linter.all false
set_option maxRecDepth 100000
set_option maxHeartbeats 4000000
namespace L07
open PySem Dn
/-! ### the small checks -/
theorem within_ok (a b c : Int) (S : Store) : m_is_within [.int a, .int b, .int c] S = .ok (.bl (decide (b ≤ a) && decide (a ≤ c))) S := by
  by_cases h1 : b ≤ a <;> by_cases h2 : a ≤ c <;> simp [m_is_within, b_is_within, m_is_integer, b_is_integer, fnD, tyName, isTy, h1, h2]
theorem lines_ok {n : Int} (h1 : 1 ≤ n) (h2 : n ≤ 12) (S : Store) : m_check_lines [.int n] S = .ok .non S := by
  simp [m_check_lines, b_check_lines, fnD, within_ok, h1, h2]
/-! ### one ideal switch -/
@[simp] theorem ne_str1 : (Str.ofString "check_output" = Str.ofString "kept_keys") = False := by
  simp only [eq_iff_iff, iff_false]
  decide +kernel
def ideal (L : Nat) : SO := .ins "Ideal" [("kept_keys", .ref L)]
theorem output_ok {S : Store} {I L : Nat} {xs : List D} {j : Nat} (hI : S[I]? = some (ideal L)) (hL : S[L]? = some (.lst xs)) (hj : j < xs.length) : m_Ideal_check_output [.ref I, .int j] S = .ok .non S := by
  have h1 : (j : Int) ≤ (xs.length : Int) - 1 := by omega
  simp [m_Ideal_check_output, b_Ideal_check_output, fnD, within_ok, hI, ideal, srcOf, Src.get, hL, h1]
theorem held_ok {S : Store} {I L l : Nat} {ls : List Nat} {xs : List D} {j : Nat} (hI : S[I]? = some (ideal L)) (hL : S[L]? = some (.lst (ls.map D.ref))) (hj : ls[j]? = some l) (hl : S[l]? = some (.lst xs)) : m_Ideal_held [.ref I, .int j] S = .ok (.tup xs) S := by
  have hlt : j < ls.length := (List.getElem?_eq_some_iff.mp hj).1
  have h1 := output_ok hI hL (j := j) (by simpa using hlt)
  have h2 : atD (ls.map D.ref) (j : Int) = some (.ref l) := atD_nat (by simp [hj])
  simp [m_Ideal_held, b_Ideal_held, fnD, h1, hI, ideal, srcOf, Src.get, hL, h2, hl]
theorem let_go_ok {S : Store} {I L l : Nat} {ls : List Nat} {x : D} {xs : List D} {j : Nat} (hI : S[I]? = some (ideal L)) (hL : S[L]? = some (.lst (ls.map D.ref))) (hj : ls[j]? = some l) (hl : S[l]? = some (.lst (x :: xs))) : m_Ideal_let_go [.ref I, .int j] S = .ok x (S.set l (.lst xs)) := by
  have hlt : j < ls.length := (List.getElem?_eq_some_iff.mp hj).1
  have h1 := output_ok hI hL (j := j) (by simpa using hlt)
  have h2 : atD (ls.map D.ref) (j : Int) = some (.ref l) := atD_nat (by simp [hj])
  have h3 : ¬ ((xs.length : Int) + 1 = 0) := by omega
  have h4 : place (xs.length + 1) 0 = some 0 := place_nat (i := 0) (by omega)
  simp [m_Ideal_let_go, b_Ideal_let_go, fnD, h1, hI, ideal, srcOf, Src.get, hL, h2, hl, h3, h4]
theorem init_lc {S : Store} {I n : Nat} : lcGo (fun _ => True) (gNameD 2) tYesD (eNew (nLst aNil)) [.val (.ref I), .val (.int n), .un] (rangeD 0 n) S = .ok ((List.range n).map fun i => D.ref (S.length + i)) (S ++ List.replicate n (.lst [])) := by
  have hlen : (rangeD 0 (n : Int)).length = n := by simp [rangeD]
  have := lcGo_new (ok := fun _ => True) (g := gNameD 2) (t := tYesD) (e := eNew (nLst aNil)) (r := [.val (.ref I), .val (.int n), .un]) (rangeD 0 n) (List.replicate n (.lst [])) S (by simp [hlen]) (fun _ _ => trivial) fun i x o hx ho => by
    have hi : i < n := by
      have := (List.getElem?_eq_some_iff.mp hx).1
      rwa [hlen] at this
    have ho' : o = .lst [] := by
      rw [List.getElem?_replicate, if_pos hi] at ho
      exact (Option.some.inj ho).symm
    subst ho'
    refine ⟨[.val (.ref I), .val (.int n), .val x], by simp [gNameD], by simp [tYesD], ?_⟩
    simp
    omega
  rw [hlen] at this
  exact this
theorem init_e1 {S : Store} {I n : Nat} (h2 : n ≤ 12) : nLc (iRange1 (eVar 1)) (gNameD 2) tYesD (eNew (nLst aNil)) [2] [.val (.ref I), .val (.int n), .un] S = .ok ((List.range n).map fun i => D.ref (S.length + i)) (S ++ List.replicate n (.lst [])) := by
  have hw := iRange1_nat (a := eVar 1) (r := [.val (.ref I), .val (.int n), .un]) (S := S) (S' := S) (n := n) (by omega) rfl
  unfold nLc
  rw [hw]
  exact init_lc
theorem x1 {S : Store} {I n : Nat} (hc : m_check_lines [D.int n] S = .ok .non S) : sDrop (eCall m_check_lines (aCons (eVar 1) aNil)) [.val (.ref I), .val (.int n), .un] S = .next [.val (.ref I), .val (.int n), .un] S := by simp [hc]
theorem x2 {S S2 : Store} {I n k : Nat} {a : DE} (e1 : a [.val (.ref I), .val (.int n), .un] S = .ok (.ref k) S2) (hI2 : S2[I]? = some (.ins "Ideal" [])) :
  sFldD ["Ideal"] "kept_keys" (eVar 0) a [.val (.ref I), .val (.int n), .un] S = .next [.val (.ref I), .val (.int n), .un] (S2.set I (ideal k)) := by
  simp [e1, hI2, putFD, ideal]

theorem init_ok {S : Store} {I n : Nat} (hI : S[I]? = some (.ins "Ideal" [])) (h1 : 1 ≤ n) (h2 : n ≤ 12) :
    m_Ideal_init [.ref I, .int n] S = .ok .non ((S ++ List.replicate n (SO.lst []) ++ [SO.lst ((List.range n).map fun i => D.ref (S.length + i))]).set I (ideal (S.length + n))) := by
  have hc := lines_ok (n := n) (by omega) (by omega) S
  have hlt := lt_of_get hI
  have hI2 : (S ++ (List.replicate n (SO.lst []) ++ [SO.lst ((List.range n).map fun i => D.ref (S.length + i))]))[I]? = some (.ins "Ideal" []) := by
    rw [List.getElem?_append_left hlt]; exact hI
  have e1 := init_e1 (S := S) (I := I) h2
  have s2 := x2 (a := eNew (nLc (iRange1 (eVar 1)) (gNameD 2) tYesD (eNew (nLst aNil)) [2])) (S := S) (I := I) (n := n) (k := S.length + n) (S2 := S ++ List.replicate n (SO.lst []) ++ [SO.lst ((List.range n).map fun i => D.ref (S.length + i))]) (by
    rw [eNew_ap, e1, Rs.bind_ok]
    simp) (by rw [List.append_assoc]; exact hI2)
  have s3 : b_Ideal_init [.val (.ref I), .val (.int n), .un] S = .next [.val (.ref I), .val (.int n), .un] ((S ++ List.replicate n (SO.lst []) ++ [SO.lst ((List.range n).map fun i => D.ref (S.length + i))]).set I (ideal (S.length + n))) := by
    unfold b_Ideal_init
    rw [sSeq_ap, x1 hc, Sr.bind_next, s2]
  unfold m_Ideal_init
  exact fnD_next rfl s3
/-- the copy of an ideal switch: new objects alone -/
theorem copy_ok {S : Store} {I L n : Nat} {ls : List Nat} {cont : List (List D)} (hI : S[I]? = some (ideal L)) (hL : S[L]? = some (.lst (ls.map D.ref))) (hn : ls.length = n) (h1 : 1 ≤ n) (h2 : n ≤ 12) (hc : cont.length = n)
    (hls : ∀ (j l : Nat) (xs : List D), ls[j]? = some l → cont[j]? = some xs → S[l]? = some (.lst xs)) :
    ∃ S3, m_Ideal_copy [.ref I] S = .ok (.ref S.length) S3 ∧ (∀ x, x < S.length → S3[x]? = S[x]?) ∧ S3[S.length]? = some (ideal (S.length + n + 2 + n)) ∧ S3[S.length + n + 2 + n]? = some (.lst (((List.range n).map fun i => S.length + n + 2 + i).map D.ref)) ∧
      (∀ (i : Nat) (xs : List D), cont[i]? = some xs → S3[S.length + n + 2 + i]? = some (.lst xs)) ∧ S3.length = S.length + n + 2 + n + 1 := by
  have hIl := lt_of_get hI
  have hLl := lt_of_get hL
  -- the new switch, empty
  have i1 := init_ok (S := S ++ [.ins "Ideal" []]) (I := S.length) (n := n) (by simp) h1 h2
  generalize hS1 : ((S ++ [SO.ins "Ideal" []] ++ List.replicate n (SO.lst []) ++ [SO.lst ((List.range n).map fun i => D.ref ((S ++ [SO.ins "Ideal" []]).length + i))]).set S.length (ideal ((S ++ [SO.ins "Ideal" []]).length + n))) = S1 at i1
  have l1 : S1.length = S.length + n + 2 := by rw [← hS1]; simp; omega
  have o1 : ∀ x, x < S.length → S1[x]? = S[x]? := fun x hx => by
    rw [← hS1, set_get_ne _ (by omega), List.append_assoc, List.append_assoc, List.getElem?_append_left hx]
  have n1 : S1[S.length]? = some (ideal (S.length + 1 + n)) := by
    rw [← hS1, set_get _ (by simp)]
    simp
  have e1 : eMake "Ideal" m_Ideal_init (aCons (eLen (lE (eFld ["Ideal"] "kept_keys" (eVar 0)))) aNil) [.val (.ref I), .un, .un] S = .ok (.ref S.length) S1 := by
    refine make_at (xs := [.int n]) (cons_at (v := .int n) ?_ nil_at) i1
    rw [eLen_ap, lE_ap, fld_at (v := .ref L) (var_at rfl) hI (by simp) (by simp [ideal]), Rs.bind_ok, srcOf_ref hL, Rs.ofO_some, Rs.bind_ok, get_loc hL]
    simp [hn]
  have s1 := set_at (i := 1) e1 (by simp)
  -- the copies
  have lcl := lcGo_new (ok := fun S => S[L]? = some (.lst (ls.map D.ref))) (g := gNameD 2) (t := tYesD) (e := eNew (nLstOf (lE (eVar 2)))) (r := [.val (.ref I), .val (.ref S.length), .un]) (ls.map D.ref) (cont.map SO.lst) S1 (by simp [hc, hn])
    (fun k _ => by rw [List.getElem?_append_left (by omega), o1 L hLl, hL]) fun i x o hx ho => by
      obtain ⟨l, hl, rfl⟩ := get_map hx
      obtain ⟨xs, hxs, rfl⟩ := get_map ho
      have hS := hls i l xs hl hxs
      have hll := lt_of_get hS
      have hS' : (S1 ++ (cont.map SO.lst).take i)[l]? = some (.lst xs) := by rw [List.getElem?_append_left (by omega), o1 l hll, hS]
      have hi : i < n := by
        have := (List.getElem?_eq_some_iff.mp hl).1
        omega
      refine ⟨[.val (.ref I), .val (.ref S.length), .val (.ref l)], by simp [gNameD], rfl, ?_⟩
      have e : nLstOf (lE (eVar 2)) [.val (.ref I), .val (.ref S.length), .val (.ref l)] (S1 ++ (cont.map SO.lst).take i) = .ok xs (S1 ++ (cont.map SO.lst).take i) := by
        rw [nLstOf_ap, lE_ap, var_at (d := .ref l) rfl, Rs.bind_ok, srcOf_ref hS', Rs.ofO_some, Rs.bind_ok, get_loc hS', Rs.ofO_some]
      rw [new_at e]
      have hlen : (S1 ++ (cont.map SO.lst).take i).length = S1.length + i := by simp; omega
      rw [hlen]
  have hw : iSeqD (eFld ["Ideal"] "kept_keys" (eVar 0)) [.val (.ref I), .val (.ref S.length), .un] S1 = .ok ⟨ls.map D.ref, fun S => S[L]? = some (.lst (ls.map D.ref))⟩ S1 := by
    rw [iSeqD_ap, fld_at (v := .ref L) (var_at rfl) ((o1 I hIl).trans hI) (by simp) (by simp [ideal]), Rs.bind_ok]
    have hL1 : S1[L]? = some (.lst (ls.map D.ref)) := (o1 L hLl).trans hL
    simp [wkOf, hL1]
  have e2 := new_at (lc_at (vs := [2]) hw lcl)
  have hn1 : (S1 ++ cont.map SO.lst ++ [SO.lst ((List.range (ls.map D.ref).length).map fun i => D.ref (S1.length + i))])[S.length]? = some (ideal (S.length + 1 + n)) := by
    rw [List.append_assoc, List.getElem?_append_left (by omega), n1]
  have s2 := sfld_at (cs := ["Ideal"]) (f := "kept_keys") (o := eVar 1) e2 (var_at (d := .ref S.length) rfl) hn1 (by simp) (by simp)
  have hrun : m_Ideal_copy [.ref I] S = .ok (.ref S.length) ((S1 ++ cont.map SO.lst ++ [SO.lst ((List.range (ls.map D.ref).length).map fun i => D.ref (S1.length + i))]).set S.length (SO.ins "Ideal" (putFD "kept_keys" (.ref (S1 ++ cont.map SO.lst).length) [("kept_keys", .ref (S.length + 1 + n))]))) := by
    unfold m_Ideal_copy
    refine fnD_ret (r := [.val (.ref I), .val (.ref S.length), .un]) rfl ?_
    unfold b_Ideal_copy
    show sSeq _ _ [.val (.ref I), .un, .un] S = _
    rw [seq_next s1]
    show sSeq _ _ [.val (.ref I), .val (.ref S.length), .un] S1 = _
    rw [seq_next s2]
    exact ret_at (var_at rfl)
  have lc1 : (S1 ++ cont.map SO.lst).length = S.length + n + 2 + n := by simp [hc, l1]
  have lm : (ls.map D.ref).length = n := by simp [hn]
  have hput : putFD "kept_keys" (.ref (S1 ++ cont.map SO.lst).length) [("kept_keys", .ref (S.length + 1 + n))] = [(("kept_keys" : Str), D.ref (S.length + n + 2 + n))] := by simp [putFD, hc, l1]
  rw [hput] at hrun
  rw [lm] at hrun
  refine ⟨_, hrun, fun x hx => ?_, ?_, ?_, fun i xs hi => ?_, ?_⟩
  · rw [set_get_ne _ (by omega), List.append_assoc, List.getElem?_append_left (by omega), o1 x hx]
  · rw [set_get _ (by simp; omega)]
    rfl
  · rw [set_get_ne _ (by omega), ← lc1, List.getElem?_append_right (Nat.le_refl _), Nat.sub_self, l1]
    simp
  · have hi' : i < n := by
      have := (List.getElem?_eq_some_iff.mp hi).1
      omega
    rw [set_get_ne _ (by omega), List.getElem?_append_left (by omega), List.getElem?_append_right (by omega)]
    have : S.length + n + 2 + i - S1.length = i := by omega
    rw [this]
    simp [hi]
  · rw [List.length_set, List.length_append, lc1]
    rfl
/-! ### push -/
theorem check_key_ok {k : Key} (h1 : -1000000000000000000 ≤ k.1) (h2 : k.1 ≤ 1000000000000000000) (h3 : 0 ≤ k.2) (S : Store) : m_check_key [keyD k] S = .ok .non S := by
  have e1 : m_is_pair [.tup [.int k.1, .int k.2]] S = .ok (.bl true) S := by simp [m_is_pair, b_is_pair, fnD, tyName, isTy]
  have e2 : m_is_integer [.int k.2] S = .ok (.bl true) S := by simp [m_is_integer, b_is_integer, fnD, tyName, isTy]
  have a0 : atD [D.int k.1, D.int k.2] 0 = some (.int k.1) := rfl
  have a1 : atD [D.int k.1, D.int k.2] 1 = some (.int k.2) := rfl
  have e3 : m_is_key [.tup [.int k.1, .int k.2]] S = .ok (.bl true) S := by simp [m_is_key, b_is_key, fnD, e1, within_ok, h1, h2, h3, e2, a0, a1]
  simp [m_check_key, b_check_key, fnD, keyD, e3]
theorem pls_ints : ∀ xs : List Int, D.pls 63 (xs.map D.int) = true
  | [] => rfl
  | x :: xs => by
    simp only [List.map_cons, D.pls, pls_ints xs, Bool.and_true, D.pl]
theorem cells_lc {ok : Store → Prop} {S : Store} {r : List Key} {p q : Rho} {i j : Nat} (hok : ok S) (hp : ∀ a : Key, gTupD 2 (gsCons (gNameD i) (gsCons (gNameD j) gsNil)) (keyD a) p S = some (q.set i (.val (.int a.1)) |>.set j (.val (.int a.2)))) (hq : j < q.length) :
    lcGo ok (gTupD 2 (gsCons (gNameD i) (gsCons (gNameD j) gsNil))) tYesD (eVar j) p (r.map keyD) S = .ok ((r.map (·.2)).map D.int) S := by
  refine lcGo_pure hok (by simp) fun m x y hx hy => ?_
  obtain ⟨a, e1, rfl⟩ := get_map hx
  obtain ⟨b, e2, rfl⟩ := get_map hy
  obtain ⟨c, e3, rfl⟩ := get_map e2
  rw [e1] at e3
  cases e3
  exact ⟨_, hp a, rfl, var_at (by simp [hq])⟩
theorem look_ne {f g : Str} {x : D} (h : (f == g) = false) : List.lookup f [(g, x)] = none := by
  rw [List.lookup_cons, h]
  rfl
theorem any_cells (r : List Key) (k : Key) : ((r.map (·.2)).map D.int).any (fun z => eqD z (.int k.2)) = r.any fun a => decide (a.2 = k.2) := by
  induction r with
  | nil => rfl
  | cons a r ih =>
    simp only [List.map_cons, List.any_cons] at ih ⊢
    rw [ih]
    congr 1
theorem push_ok {S : Store} {I L l j : Nat} {ls : List Nat} {r : List Key} {k : Key} (hI : S[I]? = some (ideal L)) (hL : S[L]? = some (.lst (ls.map D.ref))) (hj : ls[j]? = some l) (hl : S[l]? = some (.lst (r.map keyD)))
    (hs : Srt r) (hk : r.any (fun a => decide (a.2 = k.2)) = false) (h1 : -1000000000000000000 ≤ k.1) (h2 : k.1 ≤ 1000000000000000000) (h3 : 0 ≤ k.2) (hz : r.length ≤ 1000) :
    m_Ideal_push [.ref I, .int j, keyD k] S = .ok .non ((S ++ [SO.lst ((insK r k).map keyD)]).set L (SO.lst ((ls.map D.ref).set j (.ref S.length)))) := by
  have hlt : j < ls.length := (List.getElem?_eq_some_iff.mp hj).1
  have hIl := lt_of_get hI
  have hLl := lt_of_get hL
  have o1 := output_ok hI hL (j := j) (by simpa using hlt)
  have h4 : atD (ls.map D.ref) (j : Int) = some (.ref l) := atD_nat (by simp [hj])
  have hne : ∀ a ∈ r, a.2 ≠ k.2 := fun a ha e => by
    have := List.any_eq_false.mp hk a ha
    simp [e] at this
  generalize hr : ([.val (.ref I), .val (.int j), .val (keyD k), .un, .un] : Rho) = R
  have v0 : R[0]? = some (.val (.ref I)) := by rw [← hr]; rfl
  have v1 : R[1]? = some (.val (.int j)) := by rw [← hr]; rfl
  have v2 : R[2]? = some (.val (keyD k)) := by rw [← hr]; rfl
  have s1 : sDrop (eMeth "Ideal" "check_output" m_Ideal_check_output (eVar 0) (aCons (eVar 1) aNil)) R S = .next R S := by
    refine drop_at (v := .non) ?_
    rw [meth_at (var_at v0) hI (look_ne (by decide +kernel)) (cons_at (var_at v1) nil_at)]
    exact o1
  have s2 : sDrop (eCall m_check_key (aCons (eVar 2) aNil)) R S = .next R S := drop_at (call_at (cons_at (var_at v2) nil_at) (check_key_ok h1 h2 h3 S))
  have row : eIx (lE (eFld ["Ideal"] "kept_keys" (eVar 0))) (eVar 1) R S = .ok (.ref l) S := by
    rw [eIx_ap, lE_ap, fld_at (v := .ref L) (var_at v0) hI (by simp) (by simp [ideal]), Rs.bind_ok, srcOf_ref hL, Rs.ofO_some, Rs.bind_ok, var_at v1, Rs.bind_ok]
    dsimp only
    rw [get_loc hL, Option.bind_some, h4, Rs.ofO_some]
  have key1 : eIx (lE (eVar 2)) (eC (.int 1)) R S = .ok (.int k.2) S := by
    rw [eIx_ap, lE_ap, var_at v2, Rs.bind_ok]
    rfl
  have cells : eFrz (nLc (iSeqD (eIx (lE (eFld ["Ideal"] "kept_keys" (eVar 0))) (eVar 1))) (gTupD 2 (gsCons (gNameD 3) (gsCons (gNameD 4) gsNil))) tYesD (eVar 4) [3, 4]) R S = .ok (.lst ((r.map (·.2)).map D.int)) S := by
    refine frz_at (lc_at (wk := ⟨r.map keyD, fun S => S[l]? = some (.lst (r.map keyD))⟩) (S' := S) ?_ (cells_lc (q := R) hl (fun a => ?_) (by rw [← hr]; simp)))
    · rw [iSeqD_ap, row, Rs.bind_ok]
      simp [wkOf, hl]
    · rw [← hr]
      simp [wipeD, gTupD, keyD, gsCons, gsNil, gNameD]
  have s3 : sIf (tOfB (eIn false (eIx (lE (eVar 2)) (eC (.int 1))) (lE (eFrz (nLc (iSeqD (eIx (lE (eFld ["Ideal"] "kept_keys" (eVar 0))) (eVar 1))) (gTupD 2 (gsCons (gNameD 3) (gsCons (gNameD 4) gsNil))) tYesD (eVar 4) [3, 4]))))) sBad sNext R S = .next R S := by
    rw [if_f (S' := S)]
    · rfl
    · rw [tOfB_ap, eIn_ap, key1, Rs.bind_ok, lE_ap, cells, Rs.bind_ok]
      simp only [srcOf_lst, Rs.ofO_some, Rs.bind_ok, get_cst]
      rw [if_pos (by rw [pls_ints]; rfl), any_cells, hk]
      rfl
  have s4 : sPutR (eFld ["Ideal"] "kept_keys" (eVar 0)) (eVar 1) (eNew (nSorted (lE (eOp opAdd (eIx (lE (eFld ["Ideal"] "kept_keys" (eVar 0))) (eVar 1)) (eFrz (nLst (aCons (eVar 2) aNil))))))) R S =
      .next R ((S ++ [SO.lst ((insK r k).map keyD)]).set L (SO.lst ((ls.map D.ref).set j (.ref S.length)))) := by
    have sum : eOp opAdd (eIx (lE (eFld ["Ideal"] "kept_keys" (eVar 0))) (eVar 1)) (eFrz (nLst (aCons (eVar 2) aNil))) R S = .ok (.lst (r.map keyD ++ [keyD k])) S := by
      refine op_at row (frz_at (xs := [keyD k]) ?_) ?_
      · rw [nLst_ap, cons_at (var_at v2) nil_at, Rs.bind_ok, if_pos (by rw [sizeLine_val]; simp)]
      · have hle : (r.map keyD).length + [keyD k].length ≤ sizeLine := by
          rw [sizeLine_val]
          simp only [List.length_map, List.length_cons, List.length_nil]
          omega
        show (match Dn.listOf S (.ref l), Dn.listOf S (.lst [keyD k]) with
          | some xs, some ys => if xs.length + ys.length ≤ sizeLine then some (D.lst (xs ++ ys)) else none
          | _, _ => none) = _
        have z1 : Dn.listOf S (.ref l) = some (r.map keyD) := by simp [Dn.listOf, hl]
        rw [z1]
        show (if (r.map keyD).length + [keyD k].length ≤ sizeLine then some (D.lst (r.map keyD ++ [keyD k])) else none) = _
        rw [if_pos hle]
    have srt : nSorted (lE (eOp opAdd (eIx (lE (eFld ["Ideal"] "kept_keys" (eVar 0))) (eVar 1)) (eFrz (nLst (aCons (eVar 2) aNil))))) R S = .ok ((insK r k).map keyD) S := by
      have so : sortOk (r.map keyD ++ [keyD k]) = true := by
        have := sortOk_key (r ++ [k])
        simpa using this
      rw [nSorted_ap, lE_ap, sum, Rs.bind_ok]
      simp only [srcOf_lst, Rs.ofO_some, Rs.bind_ok, get_cst, isT_cst, so, Bool.not_false, Bool.and_self, if_true]
      rw [sortD_ins hs hne]
    exact put_at (new_at srt) (fld_at (v := .ref L) (var_at v0) (by rw [List.getElem?_append_left hIl]; exact hI) (by simp) (by simp [ideal])) (var_at v1) (by rw [List.getElem?_append_left hLl]; exact hL) (place_nat (by simpa using hlt))
  unfold m_Ideal_push
  refine fnD_next (r := R) rfl ?_
  show b_Ideal_push [.val (.ref I), .val (.int j), .val (keyD k), .un, .un] S = _
  rw [hr]
  unfold b_Ideal_push
  rw [seq_next s1, seq_next s2, seq_next s3, s4]
end L07

set_option Elab.async false
set_option linter.all false
set_option maxRecDepth 100000
set_option maxHeartbeats 4000000
namespace L07
open PySem Dn
/-! ### the law's own words -/
theorem draw_at {S : Store} {h : Nat} {many : Int} (hS : HandOk S h) (h1 : 1 ≤ many) (h2 : many < 1073741824) :
    ∃ (v : Int) (o : SO), m__law_draw [.ref h, .int many] S = .ok (.int v) (S.set h o) ∧ HandOk (S.set h o) h ∧ 0 ≤ v ∧ v < many := draw_ok hS h1 h2
theorem any_at {S : Store} {h : Nat} {c : D} {sc : Src} {xs : List D} (hS : HandOk S h) (hc : srcOf S c = some sc) (hg : ∀ r, sc.get r S = some xs) (hg2 : ∀ r o, sc.get r (S.set h o) = some xs) (h1 : 1 ≤ xs.length) (h2 : xs.length ≤ 1000) :
    ∃ (v : Nat) (x : D) (o : SO), m__law_any [.ref h, c] S = .ok x (S.set h o) ∧ HandOk (S.set h o) h ∧ xs[v]? = some x := by
  obtain ⟨v, o, e1, ho, h3, h4⟩ := draw_at (many := xs.length) hS (by omega) (by omega)
  have hv : v.toNat < xs.length := by omega
  refine ⟨v.toNat, xs[v.toNat], o, ?_, ho, by simp [hv]⟩
  have he : atD xs v = some xs[v.toNat] := by
    have : ((v.toNat : Nat) : Int) = v := by omega
    have q := atD_nat (xs := xs) (i := v.toNat) (d := xs[v.toNat]) (by simp [hv])
    rw [this] at q
    exact q
  unfold m__law_any
  refine fnD_ret (r := [.val (.ref h), .val c]) rfl ?_
  show b__law_any [.val (.ref h), .val c] S = _
  unfold b__law_any
  refine ret_at ?_
  have l1 : lE (eVar 1) [.val (.ref h), .val c] S = .ok sc S := by
    rw [lE_ap, var_at (d := c) rfl, Rs.bind_ok, hc, Rs.ofO_some]
  have l2 : eLen (lE (eVar 1)) [.val (.ref h), .val c] S = .ok (.int xs.length) S := by
    rw [eLen_ap, l1, Rs.bind_ok, hg, Option.bind_some, Rs.ofO_some]
  rw [eIx_ap, l1, Rs.bind_ok, call_at (cons_at (var_at (d := .ref h) rfl) (cons_at l2 nil_at)) e1, Rs.bind_ok]
  dsimp only
  rw [hg2, Option.bind_some, he, Rs.ofO_some]
theorem any_lst {S : Store} {h : Nat} {xs : List D} (hS : HandOk S h) (h1 : 1 ≤ xs.length) (h2 : xs.length ≤ 1000) :
    ∃ (v : Nat) (x : D) (o : SO), m__law_any [.ref h, .lst xs] S = .ok x (S.set h o) ∧ HandOk (S.set h o) h ∧ xs[v]? = some x :=
  any_at hS (srcOf_lst S xs) (fun _ => rfl) (fun _ _ => rfl) h1 h2
theorem any_ref {S : Store} {h l : Nat} {xs : List D} (hS : HandOk S h) (hl : S[l]? = some (.lst xs)) (ne : h ≠ l) (h1 : 1 ≤ xs.length) (h2 : xs.length ≤ 1000) :
    ∃ (v : Nat) (x : D) (o : SO), m__law_any [.ref h, .ref l] S = .ok x (S.set h o) ∧ HandOk (S.set h o) h ∧ xs[v]? = some x :=
  any_at hS (srcOf_ref hl) (fun _ => get_loc hl) (fun _ o => get_loc (by rw [set_get_ne o ne, hl])) h1 h2
theorem pow18 : opPow (.int 10) (.int 18) = some (.int 1000000000000000000) := rfl
theorem key_at {S : Store} {h : Nat} (hS : HandOk S h) :
    ∃ (k : Key) (o : SO), m__law_key [.ref h, .int 40] S = .ok (keyD k) (S.set h o) ∧ HandOk (S.set h o) h ∧ -1000000000000000000 ≤ k.1 ∧ k.1 ≤ 1000000000000000000 ∧ 0 ≤ k.2 := by
  obtain ⟨v, o1, e1, h1, v1, v2⟩ := draw_at (many := 50) hS (by decide) (by decide)
  let zs : List Int := [0, 0, 1, 2, -1, 1000000000000000000, -1000000000000000000, v - 25]
  obtain ⟨w, x, o2, e2, h2, hx⟩ := any_lst (xs := zs.map D.int) h1 (by simp [zs]) (by simp [zs])
  obtain ⟨z, hz, rfl⟩ := get_map hx
  have hb : -1000000000000000000 ≤ z ∧ z ≤ 1000000000000000000 := by
    have := List.mem_of_getElem? hz
    simp only [zs, List.mem_cons, List.not_mem_nil, or_false] at this
    omega
  obtain ⟨c, o3, e3, h3, c1, c2⟩ := draw_at (many := 40) h2 (by decide) (by decide)
  rw [set_set] at e2 h2 e3 h3
  rw [set_set] at e3 h3
  refine ⟨(z, c), o3, ?_, h3, hb.1, hb.2, c1⟩
  unfold m__law_key
  refine fnD_ret (r := [.val (.ref h), .val (.int 40), .val (.int z)]) rfl ?_
  show b__law_key [.val (.ref h), .val (.int 40), .un] S = _
  unfold b__law_key
  generalize hr : ([.val (.ref h), .val (.int 40), .un] : Rho) = R
  have v0 : R[0]? = some (.val (.ref h)) := by rw [← hr]; rfl
  have c0 : ∀ i : Int, eC (.int i) R S = .ok (.int i) S := fun _ => rfl
  have p18 : eOp (fun _ => opPow) (eC (.int 10)) (eC (.int 18)) R S = .ok (.int 1000000000000000000) S := op_at (c0 10) (c0 18) pow18
  have neg : ∀ {e : DE} {i : Int}, e R S = .ok (.int i) S → eUn opNeg e R S = .ok (.int (-i)) S := fun {e i} h => by rw [eUn_ap, h, Rs.bind_ok, opNeg_int, Rs.ofO_some]
  have dr : eOp (fun _ => opSub) (eCall m__law_draw (aCons (eVar 0) (aCons (eC (.int 50)) aNil))) (eC (.int 25)) R S = .ok (.int (v - 25)) (S.set h o1) := op_at (call_at (cons_at (var_at v0) (cons_at (c0 50) nil_at)) e1) rfl rfl
  have disp : eFrz (nLst (aCons (eC (.int 0)) (aCons (eC (.int 0)) (aCons (eC (.int 1)) (aCons (eC (.int 2)) (aCons (eUn opNeg (eC (.int 1))) (aCons (eOp (fun _ => opPow) (eC (.int 10)) (eC (.int 18))) (aCons (eUn opNeg (eOp (fun _ => opPow) (eC (.int 10)) (eC (.int 18)))) (aCons (eOp (fun _ => opSub) (eCall m__law_draw (aCons (eVar 0) (aCons (eC (.int 50)) (aNil)))) (eC (.int 25))) (aNil)))))))))) R S = .ok (.lst (zs.map D.int)) (S.set h o1) := by
    refine frz_at ?_
    rw [nLst_ap, cons_at (c0 0) (cons_at (c0 0) (cons_at (c0 1) (cons_at (c0 2) (cons_at (neg (c0 1)) (cons_at p18 (cons_at (neg p18) (cons_at dr nil_at))))))), Rs.bind_ok, if_pos (by rw [sizeLine_val]; simp)]
    rfl
  rw [seq_next (set_at (i := 2) (call_at (cons_at (var_at v0) (cons_at disp nil_at)) e2) (by rw [← hr]; simp))]
  have hr2 : R.set 2 (.val (.int z)) = [.val (.ref h), .val (.int 40), .val (.int z)] := by rw [← hr]; rfl
  rw [hr2]
  refine ret_at ?_
  rw [eTup_ap, cons_at (var_at (d := .int z) rfl) (cons_at (call_at (cons_at (var_at (d := .ref h) rfl) (cons_at (var_at (d := .int 40) rfl) nil_at)) e3) nil_at), Rs.bind_ok, if_pos (by rw [sizeLine_val]; simp)]
  rfl
theorem cut_take {xs : List D} {n : Nat} (h : n ≤ xs.length) : cutD xs none (some (n : Int)) = xs.take n := by
  have : ¬ ((n : Int) < 0) := by omega
  simp [cutD, cutAt, this, Nat.min_eq_left h]
theorem cut_drop {xs : List D} {n : Nat} (h : n ≤ xs.length) : cutD xs (some (n : Int)) none = xs.drop n := by
  have : ¬ ((n : Int) < 0) := by omega
  simp only [cutD, cutAt, this, if_false, Int.toNat_natCast, Nat.min_eq_left h]
  rw [List.take_of_length_le (by simp)]
theorem lc_filter {ok : Store → Prop} {g : DG} {t : DT} {e : DE} {p : Rho} {S : Store} {f : Key → Bool} (hok : ok S) : ∀ r : List Key, (∀ a ∈ r, ∃ r', g (keyD a) p S = some r' ∧ t r' S = .ok (f a) S ∧ e r' S = .ok (keyD a) S) →
    lcGo ok g t e p (r.map keyD) S = .ok ((r.filter f).map keyD) S
  | [], _ => by simp [lcGo, hok]
  | a :: r, h => by
    obtain ⟨r', h1, h2, h3⟩ := h a (List.mem_cons_self ..)
    have ih := lc_filter (ok := ok) (g := g) (t := t) (e := e) (p := p) (f := f) hok r fun b hb => h b (List.mem_cons_of_mem _ hb)
    cases q : f a with
    | true =>
      rw [q] at h2
      simp [lcGo, hok, h1, h2, h3, ih, List.filter_cons, q]
    | false =>
      rw [q] at h2
      simp [lcGo, hok, h1, h2, ih, List.filter_cons, q]
theorem inserted_at {S : Store} {r : List Key} {k : Key} (hs : Srt r) (hz : r.length ≤ 1000) : m__law_inserted [.lst (r.map keyD), keyD k] S = .ok (.lst ((insK r k).map keyD)) S := by
  let n := (r.filter fun a => klt a k).length
  have hn : n ≤ r.length := List.length_filter_le _ _
  have hn2 : n ≤ (r.map keyD).length := by simpa using hn
  unfold m__law_inserted
  refine fnD_ret (r := [.val (.lst (r.map keyD)), .val (keyD k), .val (.int n), .un]) rfl ?_
  show b__law_inserted [.val (.lst (r.map keyD)), .val (keyD k), .un, .un] S = _
  unfold b__law_inserted
  have lc : nLc (iSeqD (eVar 0)) (gNameD 3) (tOfB (eCmp (fun _ => cmpLt) (eVar 3) (eVar 1))) (eVar 3) [3] [.val (.lst (r.map keyD)), .val (keyD k), .un, .un] S = .ok ((r.filter fun a => klt a k).map keyD) S := by
    refine lc_at (wk := wkS (r.map keyD)) (S' := S) ?_ (lc_filter (f := fun a => klt a k) trivial r fun a _ => ⟨[.val (.lst (r.map keyD)), .val (keyD k), .un, .val (keyD a)], rfl, ?_, rfl⟩)
    · rw [iSeqD_ap, var_at (d := .lst (r.map keyD)) rfl, Rs.bind_ok]
      rfl
    · rw [tOfB_ap, eCmp_ap, var_at (d := keyD a) rfl, Rs.bind_ok, var_at (d := keyD k) rfl, Rs.bind_ok, cmpLt_key]
      rfl
  have ln : eLen (lE (eFrz (nLc (iSeqD (eVar 0)) (gNameD 3) (tOfB (eCmp (fun _ => cmpLt) (eVar 3) (eVar 1))) (eVar 3) [3]))) [.val (.lst (r.map keyD)), .val (keyD k), .un, .un] S = .ok (.int n) S := by
    rw [eLen_ap, lE_ap, frz_at lc, Rs.bind_ok, srcOf_lst, Rs.ofO_some, Rs.bind_ok, get_cst, Option.bind_some, Rs.ofO_some]
    simp [n]
  rw [seq_next (set_at (i := 2) ln (by simp))]
  show sRet _ [.val (.lst (r.map keyD)), .val (keyD k), .val (.int n), .un] S = _
  generalize hr : ([.val (.lst (r.map keyD)), .val (keyD k), .val (.int n), .un] : Rho) = R
  have v0 : R[0]? = some (.val (.lst (r.map keyD))) := by rw [← hr]; rfl
  have v1 : R[1]? = some (.val (keyD k)) := by rw [← hr]; rfl
  have v2 : R[2]? = some (.val (.int n)) := by rw [← hr]; rfl
  have sl1 : eSlice (lE (eVar 0)) oNone (oSome (eVar 2)) R S = .ok (.lst ((r.map keyD).take n)) S := by
    rw [eSlice_ap, lE_ap, var_at v0, Rs.bind_ok, srcOf_lst, Rs.ofO_some, Rs.bind_ok, oNone_ap, Rs.bind_ok, oSome_ap, var_at v2, Rs.bind_ok]
    dsimp only
    rw [Rs.bind_ok, get_cst, Rs.ofO_some, Rs.bind_ok, cut_take hn2]
    rfl
  have sl2 : eSlice (lE (eVar 0)) (oSome (eVar 2)) oNone R S = .ok (.lst ((r.map keyD).drop n)) S := by
    rw [eSlice_ap, lE_ap, var_at v0, Rs.bind_ok, srcOf_lst, Rs.ofO_some, Rs.bind_ok, oSome_ap, var_at v2, Rs.bind_ok]
    dsimp only
    rw [Rs.bind_ok, oNone_ap, Rs.bind_ok, get_cst, Rs.ofO_some, Rs.bind_ok, cut_drop hn2]
    rfl
  have one : eFrz (nLst (aCons (eVar 1) aNil)) R S = .ok (.lst [keyD k]) S := frz_at (by rw [nLst_ap, cons_at (var_at v1) nil_at, Rs.bind_ok, if_pos (by rw [sizeLine_val]; simp)])
  have add : ∀ xs ys : List D, xs.length + ys.length ≤ 16777216 → opAdd S (.lst xs) (.lst ys) = some (.lst (xs ++ ys)) := fun xs ys h => by
    show (if xs.length + ys.length ≤ sizeLine then some (D.lst (xs ++ ys)) else none) = _
    rw [if_pos (by rw [sizeLine_val]; exact h)]
  rw [ret_at (op_at (op_at sl1 one (add _ _ (by simp; omega))) sl2 (add _ _ (by simp; omega)))]
  have e : (r.map keyD).take n ++ [keyD k] ++ (r.map keyD).drop n = (insK r k).map keyD := by
    rw [← ins_take hs]
    simp [n]
  rw [e]
end L07

set_option Elab.async false
set_option linter.all false
set_option maxRecDepth 100000
set_option maxHeartbeats 4000000
namespace L07
open PySem Dn
/-! ### what stands in the law -/
def rowD (r : List Key) : D := .lst (r.map keyD)
def prD (p : Nat × Nat) : D := .tup [.ref p.1, .ref p.2]
/-- one pair of a switch and its rows; T: whose each object is -/
structure One (S : Store) (T : Nat → Nat × Nat) (k I R n b L : Nat) (ls : List Nat) (rows : List (List Key)) : Prop where
  hI : S[I]? = some (ideal L)
  tI : T I = (k + 1, 0)
  hL : S[L]? = some (.lst (ls.map D.ref))
  tL : T L = (k + 1, 1)
  hR : S[R]? = some (.lst (rows.map rowD))
  tR : T R = (k + 1, 2)
  nl : ls.length = n
  nr : rows.length = n
  row : ∀ (j l : Nat) (r : List Key), ls[j]? = some l → rows[j]? = some r → S[l]? = some (.lst (r.map keyD)) ∧ T l = (k + 1, 3 + j)
  ok : ∀ r ∈ rows, Srt r ∧ r.length ≤ b
theorem One.frame {S S' : Store} {T T' : Nat → Nat × Nat} {k I R n b b' L : Nat} {ls : List Nat} {rows : List (List Key)} (h : One S T k I R n b L ls rows) (hb : b ≤ b') (hS : ∀ x, x < S.length → (T x).1 = k + 1 → S'[x]? = S[x]?) (hT : ∀ x, x < S.length → T' x = T x) :
    One S' T' k I R n b' L ls rows := by
  have lI := lt_of_get h.hI
  have lL := lt_of_get h.hL
  have lR := lt_of_get h.hR
  refine ⟨?_, ?_, ?_, ?_, ?_, ?_, h.nl, h.nr, fun j l r h1 h2 => ?_, fun r hr => ⟨(h.ok r hr).1, Nat.le_trans (h.ok r hr).2 hb⟩⟩
  · rw [hS I lI (by rw [h.tI]), h.hI]
  · rw [hT I lI, h.tI]
  · rw [hS L lL (by rw [h.tL]), h.hL]
  · rw [hT L lL, h.tL]
  · rw [hS R lR (by rw [h.tR]), h.hR]
  · rw [hT R lR, h.tR]
  · obtain ⟨q1, q2⟩ := h.row j l r h1 h2
    have ll := lt_of_get q1
    exact ⟨by rw [hS l ll (by rw [q2]), q1], by rw [hT l ll, q2]⟩
structure StO (S : Store) (T : Nat → Nat × Nat) (E : Nat) (prs : List (Nat × Nat)) (n b : Nat) : Prop where
  hand : HandOk S 0
  th : T 0 = (0, 0)
  hE : S[E]? = some (.lst (prs.map prD))
  tE : T E = (0, 1)
  p1 : 1 ≤ prs.length
  p8 : prs.length ≤ 8
  one : ∀ k I R, prs[k]? = some (I, R) → ∃ L ls rows, One S T k I R n b L ls rows
theorem hand_congr {S S' : Store} {h : Nat} (hh : HandOk S h) (e : S'[h]? = S[h]?) : HandOk S' h := by
  obtain ⟨gs, p, d, s, c, h1, h2, h3⟩ := hh
  exact ⟨gs, p, d, s, c, by rw [e, h1], h2, h3⟩
theorem hand_lt {S : Store} {h : Nat} (hh : HandOk S h) : h < S.length := by
  obtain ⟨gs, p, d, s, c, h1, _⟩ := hh
  exact lt_of_get h1
theorem StO.drawn {S : Store} {T : Nat → Nat × Nat} {E : Nat} {prs : List (Nat × Nat)} {n b : Nat} (h : StO S T E prs n b) {o : SO} (ho : HandOk (S.set 0 o) 0) : StO (S.set 0 o) T E prs n b := by
  have ne : 0 ≠ E := fun e => by
    have := h.th
    rw [e, h.tE] at this
    cases this
  refine ⟨ho, h.th, by rw [set_get_ne o ne, h.hE], h.tE, h.p1, h.p8, fun k I R hk => ?_⟩
  obtain ⟨L, ls, rows, q⟩ := h.one k I R hk
  refine ⟨L, ls, rows, q.frame (Nat.le_refl _) (fun x hx ht => set_get_ne o fun e => ?_) fun _ _ => rfl⟩
  rw [← e, h.th] at ht
  cases ht
structure Rok (r : Rho) (n E : Nat) : Prop where
  len : r.length = 18
  v1 : r[1]? = some (.val (.ref 0))
  v2 : r[2]? = some (.val (.int n))
  v3 : r[3]? = some (.val (.ref E))
theorem Rok.set {r : Rho} {n E i : Nat} {v : Sl} (h : Rok r n E) (h1 : i ≠ 1) (h2 : i ≠ 2) (h3 : i ≠ 3) : Rok (r.set i v) n E :=
  ⟨by rw [List.length_set, h.len], by rw [List.getElem?_set_ne h1, h.v1], by rw [List.getElem?_set_ne h2, h.v2], by rw [List.getElem?_set_ne h3, h.v3]⟩
theorem slot_new {r : Rho} {i : Nat} {v : Sl} (h : i < r.length) : (r.set i v)[i]? = some v := List.getElem?_set_self h
theorem slot_old {r : Rho} {i j : Nat} {v w : Sl} (h : i ≠ j) (e : r[j]? = some w) : (r.set i v)[j]? = some w := by rw [List.getElem?_set_ne h, e]
/-! ### one turn -/
/-- the names of a turn -/
structure Now (r : Rho) (n E I R j : Nat) (kind : Int) : Prop where
  ok : Rok r n E
  v6 : r[6]? = some (.val (.ref I))
  v7 : r[7]? = some (.val (.ref R))
  v4 : r[4]? = some (.val (.int j))
  v8 : r[8]? = some (.val (.int kind))
theorem turn_start {S : Store} {T : Nat → Nat × Nat} {E : Nat} {prs : List (Nat × Nat)} {n b : Nat} {r : Rho} (h : StO S T E prs n b) (hr : Rok r n E) (hn : 1 ≤ n) (hn2 : n ≤ 12) (rest : DS) :
    ∃ (k I R j : Nat) (kind : Int) (r2 : Rho) (o : SO), prs[k]? = some (I, R) ∧ j < n ∧ Now r2 n E I R j kind ∧ StO (S.set 0 o) T E prs n b ∧
      sSeq (sAsg (eCall m__law_any (aCons (eVar 1) (aCons (eVar 3) (aNil)))) (gTupD 2 (gsCons (gNameD 6) (gsCons (gNameD 7) (gsNil))))) (sSeq (sPar 4 8 (eCall m__law_draw (aCons (eVar 1) (aCons (eVar 2) (aNil)))) (eCall m__law_draw (aCons (eVar 1) (aCons (eC (.int 6)) (aNil))))) rest) r S = rest r2 (S.set 0 o) := by
  have ne : 0 ≠ E := fun e => by
    have := h.th
    rw [e, h.tE] at this
    cases this
  obtain ⟨k, x, o1, e1, h1, hx⟩ := any_ref h.hand h.hE ne (by simpa using h.p1) (by have := h.p8; simp; omega)
  obtain ⟨⟨I, R⟩, hk, rfl⟩ := get_map hx
  obtain ⟨v, o2, e2, h2, v1, v2⟩ := draw_at (many := n) h1 (by omega) (by omega)
  obtain ⟨kind, o3, e3, h3, _, _⟩ := draw_at (many := 6) h2 (by decide) (by decide)
  rw [set_set] at e2 h2 e3 h3
  rw [set_set] at e3 h3
  have hv : ((v.toNat : Nat) : Int) = v := by omega
  have s1 : sAsg (eCall m__law_any (aCons (eVar 1) (aCons (eVar 3) (aNil)))) (gTupD 2 (gsCons (gNameD 6) (gsCons (gNameD 7) (gsNil)))) r S = .next ((r.set 6 (.val (.ref I))).set 7 (.val (.ref R))) (S.set 0 o1) := by
    rw [sAsg_ap, call_at (cons_at (var_at hr.v1) (cons_at (var_at hr.v3) nil_at)) e1, Rs.toS_ok]
    simp [prD, gTupD, gsCons, gsNil, gNameD, hr.len]
  have hr1 : Rok ((r.set 6 (.val (.ref I))).set 7 (.val (.ref R))) n E := (hr.set (by decide) (by decide) (by decide)).set (by decide) (by decide) (by decide)
  generalize hq : (r.set 6 (.val (.ref I))).set 7 (.val (.ref R)) = r1 at s1 hr1
  have w6 : r1[6]? = some (.val (.ref I)) := by rw [← hq]; exact slot_old (by decide) (slot_new (by rw [hr.len]; decide))
  have w7 : r1[7]? = some (.val (.ref R)) := by rw [← hq]; exact slot_new (by rw [List.length_set, hr.len]; decide)
  have s2 : sPar 4 8 (eCall m__law_draw (aCons (eVar 1) (aCons (eVar 2) (aNil)))) (eCall m__law_draw (aCons (eVar 1) (aCons (eC (.int 6)) (aNil)))) r1 (S.set 0 o1) = .next ((r1.set 4 (.val (.int v))).set 8 (.val (.int kind))) (S.set 0 o3) := by
    rw [sPar_ap, call_at (cons_at (var_at hr1.v1) (cons_at (var_at hr1.v2) nil_at)) e2, Rs.toS_ok, call_at (cons_at (var_at hr1.v1) (cons_at (v := .int 6) rfl nil_at)) e3, Rs.toS_ok, if_pos (by rw [hr1.len]; decide)]
  refine ⟨k, I, R, v.toNat, kind, (r1.set 4 (.val (.int v))).set 8 (.val (.int kind)), o3, hk, by omega, ⟨(hr1.set (by decide) (by decide) (by decide)).set (by decide) (by decide) (by decide), ?_, ?_, ?_, ?_⟩, h.drawn h3, ?_⟩
  · exact slot_old (by decide) (slot_old (by decide) w6)
  · exact slot_old (by decide) (slot_old (by decide) w7)
  · rw [hv]; exact slot_old (by decide) (slot_new (by rw [hr1.len]; decide))
  · exact slot_new (by rw [List.length_set, hr1.len]; decide)
  · rw [seq_next s1, seq_next s2]
/-- the row that is meant -/
theorem row_at {S : Store} {T : Nat → Nat × Nat} {k I R n b L j E : Nat} {ls : List Nat} {rows : List (List Key)} {r : Rho} (h : One S T k I R n b L ls rows) (w7 : r[7]? = some (.val (.ref R))) (w4 : r[4]? = some (.val (.int j))) {r0 : List Key} (hj : rows[j]? = some r0) :
    eIx (lE (eVar 7)) (eVar 4) r S = .ok (rowD r0) S := by
  have h4 : atD (rows.map rowD) (j : Int) = some (rowD r0) := atD_nat (by simp [hj])
  rw [eIx_ap, lE_ap, var_at w7, Rs.bind_ok, srcOf_ref h.hR, Rs.ofO_some, Rs.bind_ok, var_at w4, Rs.bind_ok]
  dsimp only
  rw [get_loc h.hR, Option.bind_some, h4, Rs.ofO_some]
theorem cmpNe_self {S : Store} {d : D} (h1 : D.pl 64 (flatL S d) = true) (h2 : eqD (flatL S d) (flatL S d) = true) : cmpNe S d d = some false := by
  unfold cmpNe
  rw [h1, h2]
  rfl
theorem eq_key (a : Key) : eqD (keyD a) (keyD a) = true := by simp [keyD, eqD, eqDs]
theorem eq_keys : ∀ r : List Key, eqDs (r.map keyD) (r.map keyD) = true
  | [] => rfl
  | a :: r => by simp [eqDs, eq_key, eq_keys r]
theorem pl_keys : ∀ r : List Key, D.pls 62 (r.map keyD) = true
  | [] => rfl
  | a :: r => by simp [D.pls, pl_keys r, keyD, D.pl]
/-! ### a new pair -/
theorem branch_copy {S : Store} {T : Nat → Nat × Nat} {E : Nat} {prs : List (Nat × Nat)} {n b k I R j : Nat} {kind : Int} {r : Rho} (h : StO S T E prs n b) (hn : 1 ≤ n) (hn2 : n ≤ 12) (hk : prs[k]? = some (I, R)) (hr : Now r n E I R j kind) (h8 : prs.length < 8) :
    ∃ S3 T3 prs3, sDrop (eAppR (eVar 3) (eTup (aCons (eMeth "Ideal" "copy" m_Ideal_copy (eVar 6) aNil) (aCons (eNew (nLstOf (lE (eVar 7)))) (aNil))))) r S = .next r S3 ∧ StO S3 T3 E prs3 n (b + 1) := by
  obtain ⟨L, ls, rows, q⟩ := h.one k I R hk
  obtain ⟨S1, e1, o1, i1, l1, c1, z1⟩ := copy_ok (cont := rows.map fun r => r.map keyD) q.hI q.hL q.nl hn hn2 (by simp [q.nr]) fun i l xs hl hx => by
    obtain ⟨r0, hr0, rfl⟩ := get_map hx
    exact (q.row i l r0 hl hr0).1
  have lR := lt_of_get q.hR
  have lE := lt_of_get h.hE
  have hR1 : S1[R]? = some (.lst (rows.map rowD)) := (o1 R lR).trans q.hR
  have e2 : eNew (nLstOf (Dn.lE (eVar 7))) r S1 = .ok (.ref S1.length) (S1 ++ [.lst (rows.map rowD)]) := by
    refine new_at ?_
    rw [nLstOf_ap, lE_ap, var_at hr.v7, Rs.bind_ok, srcOf_ref hR1, Rs.ofO_some, Rs.bind_ok, get_loc hR1, Rs.ofO_some]
  have e3 : eTup (aCons (eMeth "Ideal" "copy" m_Ideal_copy (eVar 6) aNil) (aCons (eNew (nLstOf (Dn.lE (eVar 7)))) (aNil))) r S = .ok (prD (S.length, S1.length)) (S1 ++ [.lst (rows.map rowD)]) := by
    have m1 : eMeth "Ideal" "copy" m_Ideal_copy (eVar 6) aNil r S = .ok (.ref S.length) S1 := by
      rw [meth_at (var_at hr.v6) q.hI (look_ne (by decide +kernel)) nil_at]
      exact e1
    rw [eTup_ap, cons_at m1 (cons_at e2 nil_at), Rs.bind_ok, if_pos (by rw [sizeLine_val]; simp)]
    rfl
  have hE2 : (S1 ++ [SO.lst (rows.map rowD)])[E]? = some (.lst (prs.map prD)) := by
    rw [List.getElem?_append_left (by omega), o1 E lE, h.hE]
  have e4 := app_at (e := eTup (aCons (eMeth "Ideal" "copy" m_Ideal_copy (eVar 6) aNil) (aCons (eNew (nLstOf (Dn.lE (eVar 7)))) (aNil)))) (var_at hr.ok.v3) h.hE e3 hE2 (by rw [sizeLine_val]; simp; omega)
  generalize hS3 : (S1 ++ [SO.lst (rows.map rowD)]).set E (SO.lst (prs.map prD ++ [prD (S.length, S1.length)])) = S3 at e4
  have ol : ∀ x, x < S.length → x ≠ E → S3[x]? = S[x]? := fun x hx hne => by
    rw [← hS3, set_get_ne _ (Ne.symm hne), List.getElem?_append_left (by omega), o1 x hx]
  have nw : ∀ x, S.length ≤ x → x < S1.length → S3[x]? = S1[x]? := fun x h1 h2 => by
    rw [← hS3, set_get_ne _ (by omega), List.getElem?_append_left h2]
  refine ⟨S3, fun x => if x < S.length then T x else if x = S.length then (prs.length + 1, 0) else if x = S.length + n + 2 + n then (prs.length + 1, 1) else if x = S1.length then (prs.length + 1, 2) else (prs.length + 1, 3 + (x - (S.length + n + 2))), prs ++ [(S.length, S1.length)], drop_at e4, ?_⟩
  have t0 : ∀ x, x < S.length → (if x < S.length then T x else if x = S.length then (prs.length + 1, 0) else if x = S.length + n + 2 + n then (prs.length + 1, 1) else if x = S1.length then (prs.length + 1, 2) else (prs.length + 1, 3 + (x - (S.length + n + 2)))) = T x := fun x hx => if_pos hx
  have ne : 0 ≠ E := fun e => by
    have := h.th
    rw [e, h.tE] at this
    cases this
  refine ⟨hand_congr h.hand (ol 0 (hand_lt h.hand) ne), by rw [t0 0 (hand_lt h.hand), h.th], ?_, by rw [t0 E lE, h.tE], by simp, by simp; omega, fun k' I' R' hk' => ?_⟩
  · rw [← hS3, set_get _ (by simp; omega)]
    simp
  · by_cases hlt : k' < prs.length
    · rw [List.getElem?_append_left hlt] at hk'
      obtain ⟨L', ls', rows', q'⟩ := h.one k' I' R' hk'
      refine ⟨L', ls', rows', q'.frame (Nat.le_succ _) (fun x hx ht => ol x hx fun e => ?_) t0⟩
      rw [e, h.tE] at ht
      cases ht
    · have hk2 : k' = prs.length := by
        have := (List.getElem?_eq_some_iff.mp hk').1
        simp at this
        omega
      subst hk2
      rw [List.getElem?_append_right (Nat.le_refl _), Nat.sub_self] at hk'
      cases hk'
      refine ⟨S.length + n + 2 + n, (List.range n).map fun i => S.length + n + 2 + i, rows, ⟨?_, ?_, ?_, ?_, ?_, ?_, by simp, q.nr, fun i l r0 hl hr0 => ?_, fun r0 hr0 => ⟨(q.ok r0 hr0).1, Nat.le_succ_of_le (q.ok r0 hr0).2⟩⟩⟩
      · rw [nw _ (Nat.le_refl _) (by omega), i1]
      · simp
      · rw [nw _ (by omega) (by omega), l1]
      · rw [if_neg (by omega), if_neg (by omega), if_pos rfl]
      · rw [← hS3, set_get_ne _ (by omega), List.getElem?_append_right (Nat.le_refl _), Nat.sub_self]
        rfl
      · rw [if_neg (by omega), if_neg (by omega), if_neg (by omega), if_pos rfl]
      · obtain ⟨i2, hi2, rfl⟩ := get_map hl
        have hi3 : i2 = i := by
          rw [List.getElem?_range (by have := (List.getElem?_eq_some_iff.mp hi2).1; simpa using this)] at hi2
          exact (Option.some.inj hi2).symm
        subst hi3
        have hi4 : i2 < n := by
          have := (List.getElem?_eq_some_iff.mp hr0).1
          rw [q.nr] at this
          exact this
        refine ⟨?_, ?_⟩
        · rw [nw _ (by omega) (by omega)]
          exact c1 i2 _ (by simp [hr0])
        · rw [if_neg (by omega), if_neg (by omega), if_neg (by omega), if_neg (by omega)]
          congr 1
          omega
end L07

set_option Elab.async false
set_option linter.all false
set_option maxRecDepth 100000
set_option maxHeartbeats 4000000
namespace L07
open PySem Dn
theorem ne_of_tag {T : Nat → Nat × Nat} {x y : Nat} {a b : Nat × Nat} (h1 : T x = a) (h2 : T y = b) (h : a ≠ b) : x ≠ y := fun e => h (by rw [← h1, ← h2, e])
theorem ins_len (r : List Key) (k : Key) : (insK r k).length = r.length + 1 := by
  have := (ins_perm r k).length_eq
  simpa using this
/-- a pair after its row j has changed: the switch's row stands at l', the law's row is r' -/
theorem One.put {S S' : Store} {T T' : Nat → Nat × Nat} {k I R n b L j l' : Nat} {ls : List Nat} {rows : List (List Key)} {r' : List Key} (q : One S T k I R n b L ls rows) (hT : ∀ x, x < S.length → T' x = T x)
    (hI : S'[I]? = S[I]?) (hL : S'[L]? = some (.lst ((ls.set j l').map D.ref))) (hR : S'[R]? = some (.lst ((rows.set j r').map rowD))) (hl : S'[l']? = some (.lst (r'.map keyD))) (tl : T' l' = (k + 1, 3 + j))
    (ho : ∀ x i, T x = (k + 1, 3 + i) → i ≠ j → x < S.length → S'[x]? = S[x]?) (hs : Srt r') (hz : r'.length ≤ b + 1) : One S' T' k I R n (b + 1) L (ls.set j l') (rows.set j r') := by
  have lI := lt_of_get q.hI
  have lL := lt_of_get q.hL
  have lR := lt_of_get q.hR
  refine ⟨by rw [hI, q.hI], by rw [hT I lI, q.tI], hL, by rw [hT L lL, q.tL], hR, by rw [hT R lR, q.tR], by rw [List.length_set, q.nl], by rw [List.length_set, q.nr], fun i l r h1 h2 => ?_, fun r hr => ?_⟩
  · by_cases e : i = j
    · subst e
      have hi : i < ls.length := by
        have := (List.getElem?_eq_some_iff.mp h1).1
        simpa using this
      have hi2 : i < rows.length := by
        have := (List.getElem?_eq_some_iff.mp h2).1
        simpa using this
      rw [List.getElem?_set_self hi] at h1
      rw [List.getElem?_set_self hi2] at h2
      cases h1
      cases h2
      exact ⟨hl, tl⟩
    · rw [List.getElem?_set_ne (Ne.symm e)] at h1 h2
      obtain ⟨q1, q2⟩ := q.row i l r h1 h2
      have ll := lt_of_get q1
      exact ⟨by rw [ho l i q2 e ll, q1], by rw [hT l ll, q2]⟩
  · rcases List.mem_or_eq_of_mem_set hr with z | z
    · exact ⟨(q.ok r z).1, Nat.le_succ_of_le (q.ok r z).2⟩
    · rw [z]; exact ⟨hs, hz⟩
theorem StO.turned {S S' : Store} {T T' : Nat → Nat × Nat} {E : Nat} {prs : List (Nat × Nat)} {n b k I R : Nat} (h : StO S T E prs n b) (hk : prs[k]? = some (I, R)) (hT : ∀ x, x < S.length → T' x = T x) (hS : ∀ x, x < S.length → (T x).1 ≠ k + 1 → S'[x]? = S[x]?)
    (h1 : ∃ L ls rows, One S' T' k I R n (b + 1) L ls rows) : StO S' T' E prs n (b + 1) := by
  have lE := lt_of_get h.hE
  have l0 := hand_lt h.hand
  refine ⟨hand_congr h.hand (hS 0 l0 (by rw [h.th]; exact (Nat.succ_ne_zero k).symm)), by rw [hT 0 l0, h.th], by rw [hS E lE (by rw [h.tE]; exact (Nat.succ_ne_zero k).symm), h.hE], by rw [hT E lE, h.tE], h.p1, h.p8, fun k' I' R' hk' => ?_⟩
  by_cases e : k' = k
  · subst e
    rw [hk] at hk'
    cases hk'
    exact h1
  · obtain ⟨L, ls, rows, q⟩ := h.one k' I' R' hk'
    exact ⟨L, ls, rows, q.frame (Nat.le_succ _) (fun x hx ht => hS x hx (by omega)) hT⟩
theorem StO.more {S : Store} {T : Nat → Nat × Nat} {E : Nat} {prs : List (Nat × Nat)} {n b : Nat} (h : StO S T E prs n b) : StO S T E prs n (b + 1) :=
  ⟨h.hand, h.th, h.hE, h.tE, h.p1, h.p8, fun k I R hk => let ⟨L, ls, rows, q⟩ := h.one k I R hk; ⟨L, ls, rows, q.frame (Nat.le_succ _) (fun _ _ _ => rfl) fun _ _ => rfl⟩⟩
theorem branch_push {S : Store} {T : Nat → Nat × Nat} {E : Nat} {prs : List (Nat × Nat)} {n b k I R j : Nat} {kind : Int} {r : Rho} (h : StO S T E prs n b) (hb : b ≤ 1000) (hk : prs[k]? = some (I, R)) (hr : Now r n E I R j kind) (hj : j < n) :
    ∃ r3 S3 T3 prs3, sSeq (sSet 9 (eCall m__law_key (aCons (eVar 1) (aCons (eC (.int 40)) (aNil))))) (sIf (tOfB (eIn true (eIx (lE (eVar 9)) (eC (.int 1))) (lE (eFrz (nLc (iSeqD (eIx (lE (eVar 7)) (eVar 4))) (gTupD 2 (gsCons (gNameD 10) (gsCons (gNameD 11) (gsNil)))) (tYesD) (eVar 11) [10, 11]))))) (sSeq (sDrop (eMeth "Ideal" "push" m_Ideal_push (eVar 6) (aCons (eVar 4) (aCons (eVar 9) (aNil))))) (sPutR (eVar 7) (eVar 4) (eCall m__law_inserted (aCons (eIx (lE (eVar 7)) (eVar 4)) (aCons (eVar 9) (aNil)))))) (sNext)) r S = .next r3 S3 ∧ Rok r3 n E ∧ StO S3 T3 E prs3 n (b + 1) := by
  obtain ⟨key, o, e1, ho, k1, k2, k3⟩ := key_at h.hand
  have h' := h.drawn ho
  generalize S.set 0 o = S1 at e1 ho h'
  have s1 := set_at (i := 9) (call_at (cons_at (var_at hr.ok.v1) (cons_at (e := eC (.int 40)) rfl nil_at)) e1) (by rw [hr.ok.len]; decide)
  rw [seq_next s1]
  have hr1 : Rok (r.set 9 (.val (keyD key))) n E := hr.ok.set (by decide) (by decide) (by decide)
  have w9 : (r.set 9 (.val (keyD key)))[9]? = some (.val (keyD key)) := slot_new (by rw [hr.ok.len]; decide)
  have w6 : (r.set 9 (.val (keyD key)))[6]? = some (.val (.ref I)) := slot_old (by decide) hr.v6
  have w7 : (r.set 9 (.val (keyD key)))[7]? = some (.val (.ref R)) := slot_old (by decide) hr.v7
  have w4 : (r.set 9 (.val (keyD key)))[4]? = some (.val (.int j)) := slot_old (by decide) hr.v4
  generalize r.set 9 (.val (keyD key)) = r1 at hr1 w9 w6 w7 w4
  obtain ⟨L, ls, rows, q⟩ := h'.one k I R hk
  have hj1 : j < rows.length := by rw [q.nr]; exact hj
  have hj2 : j < ls.length := by rw [q.nl]; exact hj
  obtain ⟨r0, hr0⟩ : ∃ r0, rows[j]? = some r0 := ⟨rows[j], by simp [hj1]⟩
  obtain ⟨l, hl⟩ : ∃ l, ls[j]? = some l := ⟨ls[j], by simp [hj2]⟩
  obtain ⟨hl1, hl2⟩ := q.row j l r0 hl hr0
  obtain ⟨srt, len⟩ := q.ok r0 (List.mem_of_getElem? hr0)
  have row := row_at (E := E) q w7 w4 hr0
  have key1 : eIx (lE (eVar 9)) (eC (.int 1)) r1 S1 = .ok (.int key.2) S1 := by
    rw [eIx_ap, lE_ap, var_at w9, Rs.bind_ok]
    rfl
  have cells : eFrz (nLc (iSeqD (eIx (lE (eVar 7)) (eVar 4))) (gTupD 2 (gsCons (gNameD 10) (gsCons (gNameD 11) (gsNil)))) (tYesD) (eVar 11) [10, 11]) r1 S1 = .ok (.lst ((r0.map (·.2)).map D.int)) S1 := by
    refine frz_at (lc_at (wk := wkS (r0.map keyD)) (S' := S1) ?_ (cells_lc (q := wipeD r1 [10, 11]) trivial (fun a => ?_) (by simp [wipeD, hr1.len])))
    · rw [iSeqD_ap, row, Rs.bind_ok]
      rfl
    · simp [wipeD, gTupD, keyD, gsCons, gsNil, gNameD, hr1.len]
  have test : ∀ bb : Bool, (r0.any fun a => decide (a.2 = key.2)) = bb → tOfB (eIn true (eIx (lE (eVar 9)) (eC (.int 1))) (lE (eFrz (nLc (iSeqD (eIx (lE (eVar 7)) (eVar 4))) (gTupD 2 (gsCons (gNameD 10) (gsCons (gNameD 11) (gsNil)))) (tYesD) (eVar 11) [10, 11])))) r1 S1 = .ok (!bb) S1 := fun bb hbb => by
    rw [tOfB_ap, eIn_ap, key1, Rs.bind_ok, lE_ap, cells, Rs.bind_ok]
    simp only [srcOf_lst, Rs.ofO_some, Rs.bind_ok, get_cst]
    rw [if_pos (by rw [pls_ints]; rfl), any_cells, hbb]
    rfl
  cases hbb : (r0.any fun a => decide (a.2 = key.2)) with
  | true =>
    rw [if_f (test true hbb)]
    exact ⟨r1, S1, T, prs, rfl, hr1, h'.more⟩
  | false =>
    have hne : ∀ a ∈ r0, a.2 ≠ key.2 := fun a ha e => by
      have := List.any_eq_false.mp hbb a ha
      simp [e] at this
    rw [if_t (test false hbb)]
    have pe := push_ok q.hI q.hL hl hl1 srt hbb k1 k2 k3 (by omega)
    generalize hS2 : (S1 ++ [SO.lst ((insK r0 key).map keyD)]).set L (SO.lst ((ls.map D.ref).set j (.ref S1.length))) = S2 at pe
    have lI := lt_of_get q.hI
    have lL := lt_of_get q.hL
    have lR := lt_of_get q.hR
    have nLR : L ≠ R := ne_of_tag q.tL q.tR (by simp)
    have nIL : I ≠ L := ne_of_tag q.tI q.tL (by simp)
    have nIR : I ≠ R := ne_of_tag q.tI q.tR (by simp)
    have old2 : ∀ x, x < S1.length → x ≠ L → S2[x]? = S1[x]? := fun x hx hne => by
      rw [← hS2, set_get_ne _ (Ne.symm hne), List.getElem?_append_left hx]
    have hR2 : S2[R]? = some (.lst (rows.map rowD)) := (old2 R lR nLR.symm).trans q.hR
    have s2 : sDrop (eMeth "Ideal" "push" m_Ideal_push (eVar 6) (aCons (eVar 4) (aCons (eVar 9) (aNil)))) r1 S1 = .next r1 S2 := by
      refine drop_at (v := .non) ?_
      rw [meth_at (var_at w6) q.hI (look_ne (by decide +kernel)) (cons_at (var_at w4) (cons_at (var_at w9) nil_at))]
      exact pe
    have row2 : eIx (lE (eVar 7)) (eVar 4) r1 S2 = .ok (rowD r0) S2 := by
      have h4 : atD (rows.map rowD) (j : Int) = some (rowD r0) := atD_nat (by simp [hr0])
      rw [eIx_ap, lE_ap, var_at w7, Rs.bind_ok, srcOf_ref hR2, Rs.ofO_some, Rs.bind_ok, var_at w4, Rs.bind_ok]
      dsimp only
      rw [get_loc hR2, Option.bind_some, h4, Rs.ofO_some]
    have s3 := put_at (o := eVar 7) (k := eVar 4) (call_at (m := m__law_inserted) (cons_at row2 (cons_at (var_at w9) nil_at)) (inserted_at srt (by omega))) (var_at w7) (var_at w4) hR2 (place_nat (by simpa using hj1))
    rw [seq_next s2]
    refine ⟨r1, _, fun x => if x < S1.length then T x else (k + 1, 3 + j), prs, s3, hr1, ?_⟩
    have t0 : ∀ x, x < S1.length → (if x < S1.length then T x else (k + 1, 3 + j)) = T x := fun x hx => if_pos hx
    have l2 : S2.length = S1.length + 1 := by rw [← hS2]; simp
    have nwL : S2[L]? = some (.lst ((ls.map D.ref).set j (.ref S1.length))) := by
      rw [← hS2, set_get _ (by simp; omega)]
    refine h'.turned hk t0 (fun x hx ht => ?_) ⟨L, _, _, q.put (j := j) (l' := S1.length) (r' := insK r0 key) t0 ?_ ?_ ?_ ?_ ?_ (fun x i hx hi hlx => ?_) (ins_srt srt hne) (by rw [ins_len]; omega)⟩
    · rw [set_get_ne _ (fun e => ht (by rw [← e, q.tR])), old2 x hx fun e => ht (by rw [e, q.tL])]
    · rw [set_get_ne _ nIR.symm, old2 I lI nIL]
    · rw [set_get_ne _ nLR.symm, nwL, List.map_set]
    · rw [set_get _ (by omega)]
      rw [List.map_set]
      rfl
    · rw [set_get_ne _ (by omega), ← hS2, set_get_ne _ (by omega), List.getElem?_append_right (Nat.le_refl _), Nat.sub_self]
      rfl
    · exact if_neg (by omega)
    · have nxR : R ≠ x := ne_of_tag q.tR hx (by simp; omega)
      have nxL : x ≠ L := ne_of_tag hx q.tL (by simp; omega)
      rw [set_get_ne _ nxR, old2 x hlx nxL]
theorem branch_pop {S : Store} {T : Nat → Nat × Nat} {E : Nat} {prs : List (Nat × Nat)} {n b k I R j : Nat} {kind : Int} {r : Rho} (h : StO S T E prs n b) (hk : prs[k]? = some (I, R)) (hr : Now r n E I R j kind) (hj : j < n) :
    ∃ S3, sIf (tOfB (eCmp (fun _ => cmpI iGt) (eLen (lE (eIx (lE (eVar 7)) (eVar 4)))) (eC (.int 0)))) (sSeq (sIf (tOfB (eCmp cmpNe (eMeth "Ideal" "let_go" m_Ideal_let_go (eVar 6) (aCons (eVar 4) (aNil))) (eIx (lE (eIx (lE (eVar 7)) (eVar 4))) (eC (.int 0))))) (sRet (eC (.bl false))) (sNext)) (sPutR (eVar 7) (eVar 4) (eSlice (lE (eIx (lE (eVar 7)) (eVar 4))) (oSome (eC (.int 1))) oNone))) (sNext) r S = .next r S3 ∧ StO S3 T E prs n (b + 1) := by
  obtain ⟨L, ls, rows, q⟩ := h.one k I R hk
  have hj1 : j < rows.length := by rw [q.nr]; exact hj
  have hj2 : j < ls.length := by rw [q.nl]; exact hj
  obtain ⟨r0, hr0⟩ : ∃ r0, rows[j]? = some r0 := ⟨rows[j], by simp [hj1]⟩
  obtain ⟨l, hl⟩ : ∃ l, ls[j]? = some l := ⟨ls[j], by simp [hj2]⟩
  obtain ⟨hl1, hl2⟩ := q.row j l r0 hl hr0
  obtain ⟨srt, len⟩ := q.ok r0 (List.mem_of_getElem? hr0)
  have row := row_at (E := E) q hr.v7 hr.v4 hr0
  have ln : eLen (lE (eIx (lE (eVar 7)) (eVar 4))) r S = .ok (.int r0.length) S := by
    rw [eLen_ap, lE_ap, row, Rs.bind_ok]
    simp [rowD]
  have test : tOfB (eCmp (fun _ => cmpI iGt) (eLen (lE (eIx (lE (eVar 7)) (eVar 4)))) (eC (.int 0))) r S = .ok (decide (0 < r0.length)) S := by
    rw [tOfB_ap, eCmp_ap, ln, Rs.bind_ok]
    simp
  cases r0 with
  | nil =>
    rw [if_f test]
    exact ⟨S, rfl, h.more⟩
  | cons a r1 =>
    rw [if_t test]
    have pe := let_go_ok q.hI q.hL hl (x := keyD a) (xs := r1.map keyD) (by simpa using hl1)
    have lI := lt_of_get q.hI
    have lL := lt_of_get q.hL
    have lR := lt_of_get q.hR
    have ll := lt_of_get hl1
    have nlR : l ≠ R := ne_of_tag hl2 q.tR (by simp; omega)
    have nlL : l ≠ L := ne_of_tag hl2 q.tL (by simp; omega)
    have nlI : l ≠ I := ne_of_tag hl2 q.tI (by simp)
    have nLR : L ≠ R := ne_of_tag q.tL q.tR (by simp)
    have nIR : I ≠ R := ne_of_tag q.tI q.tR (by simp)
    generalize hS2 : S.set l (SO.lst (r1.map keyD)) = S2 at pe
    have old2 : ∀ x, x ≠ l → S2[x]? = S[x]? := fun x hne => by rw [← hS2, set_get_ne _ (Ne.symm hne)]
    have l2 : S2.length = S.length := by rw [← hS2]; simp
    have hR2 : S2[R]? = some (.lst (rows.map rowD)) := (old2 R nlR.symm).trans q.hR
    have row2 : eIx (lE (eVar 7)) (eVar 4) r S2 = .ok (rowD (a :: r1)) S2 := by
      have h4 : atD (rows.map rowD) (j : Int) = some (rowD (a :: r1)) := atD_nat (by simp [hr0])
      rw [eIx_ap, lE_ap, var_at hr.v7, Rs.bind_ok, srcOf_ref hR2, Rs.ofO_some, Rs.bind_ok, var_at hr.v4, Rs.bind_ok]
      dsimp only
      rw [get_loc hR2, Option.bind_some, h4, Rs.ofO_some]
    have e1 : eMeth "Ideal" "let_go" m_Ideal_let_go (eVar 6) (aCons (eVar 4) (aNil)) r S = .ok (keyD a) S2 := by
      rw [meth_at (var_at hr.v6) q.hI (look_ne (by decide +kernel)) (cons_at (var_at hr.v4) nil_at)]
      exact pe
    have e2 : eIx (lE (eIx (lE (eVar 7)) (eVar 4))) (eC (.int 0)) r S2 = .ok (keyD a) S2 := by
      rw [eIx_ap, lE_ap, row2, Rs.bind_ok]
      show (Rs.ofO (some (Src.cst false ((a :: r1).map keyD))) S2).bind _ = _
      rw [Rs.ofO_some, Rs.bind_ok]
      show Rs.ofO (atD ((a :: r1).map keyD) ((0 : Nat) : Int)) S2 = _
      rw [atD_nat (xs := (a :: r1).map keyD) (i := 0) (d := keyD a) rfl, Rs.ofO_some]
    have s1 : sIf (tOfB (eCmp cmpNe (eMeth "Ideal" "let_go" m_Ideal_let_go (eVar 6) (aCons (eVar 4) (aNil))) (eIx (lE (eIx (lE (eVar 7)) (eVar 4))) (eC (.int 0))))) (sRet (eC (.bl false))) (sNext) r S = .next r S2 := by
      rw [if_f (S' := S2)]
      · rfl
      · rw [tOfB_ap, eCmp_ap, e1, Rs.bind_ok, e2, Rs.bind_ok, cmpNe_self (S := S2) (d := keyD a) (by simp [flatL, keyD, D.pl, D.pls]) (eq_key a)]
        rfl
    have e3 : eSlice (lE (eIx (lE (eVar 7)) (eVar 4))) (oSome (eC (.int 1))) oNone r S2 = .ok (rowD r1) S2 := by
      rw [eSlice_ap, lE_ap, row2, Rs.bind_ok]
      show (Rs.ofO (some (Src.cst false ((a :: r1).map keyD))) S2).bind _ = _
      rw [Rs.ofO_some, Rs.bind_ok]
      show (Rs.ok (some (((1 : Nat) : Int))) S2).bind _ = _
      rw [Rs.bind_ok, oNone_ap, Rs.bind_ok, get_cst, Rs.ofO_some, Rs.bind_ok, cut_drop (by simp)]
      rfl
    have s2 := put_at (o := eVar 7) (k := eVar 4) e3 (var_at hr.v7) (var_at hr.v4) hR2 (place_nat (by simpa using hj1))
    rw [seq_next s1, s2]
    have same : ls.set j l = ls := by
      apply List.ext_getElem?
      intro i
      by_cases e : j = i
      · subst e
        rw [List.getElem?_set_self hj2, hl]
      · rw [List.getElem?_set_ne e]
    refine ⟨_, rfl, h.turned hk (fun _ _ => rfl) (fun x hx ht => ?_) ⟨L, _, _, q.put (j := j) (l' := l) (r' := r1) (fun _ _ => rfl) ?_ ?_ ?_ ?_ hl2 (fun x i hx hi hlx => ?_) (List.pairwise_cons.mp srt).2 (by simp at len; omega)⟩⟩
    · rw [set_get_ne _ (fun e => ht (by rw [← e, q.tR])), old2 x fun e => ht (by rw [e, hl2])]
    · rw [set_get_ne _ nIR.symm, old2 I nlI.symm]
    · rw [set_get_ne _ nLR.symm, old2 L nlL.symm, q.hL, same]
    · rw [set_get _ (by omega), List.map_set]
    · rw [set_get_ne _ nlR.symm, ← hS2, set_get _ ll]
    · have nxR : R ≠ x := ne_of_tag q.tR hx (by simp; omega)
      have nxl : x ≠ l := ne_of_tag hx hl2 (by simp; omega)
      rw [set_get_ne _ nxR, old2 x nxl]
end L07

set_option Elab.async false
set_option linter.all false
set_option maxRecDepth 100000
set_option maxHeartbeats 4000000
namespace L07
open PySem Dn
/-! ### the loop -/
noncomputable def turnB : DS := sSeq (sAsg (eCall m__law_any (aCons (eVar 1) (aCons (eVar 3) (aNil)))) (gTupD 2 (gsCons (gNameD 6) (gsCons (gNameD 7) (gsNil))))) (sSeq (sPar 4 8 (eCall m__law_draw (aCons (eVar 1) (aCons (eVar 2) (aNil)))) (eCall m__law_draw (aCons (eVar 1) (aCons (eC (.int 6)) (aNil))))) (sIf (tAndD (tOfB (eCmp cmpEq (eVar 8) (eC (.int 0)))) (tOfB (eCmp (fun _ => cmpI iLt) (eLen (lE (eVar 3))) (eC (.int 8))))) (sDrop (eAppR (eVar 3) (eTup (aCons (eMeth "Ideal" "copy" m_Ideal_copy (eVar 6) aNil) (aCons (eNew (nLstOf (lE (eVar 7)))) (aNil)))))) (sIf (tOfB (eCmp (fun _ => cmpI iLt) (eVar 8) (eC (.int 4)))) (sSeq (sSet 9 (eCall m__law_key (aCons (eVar 1) (aCons (eC (.int 40)) (aNil))))) (sIf (tOfB (eIn true (eIx (lE (eVar 9)) (eC (.int 1))) (lE (eFrz (nLc (iSeqD (eIx (lE (eVar 7)) (eVar 4))) (gTupD 2 (gsCons (gNameD 10) (gsCons (gNameD 11) (gsNil)))) (tYesD) (eVar 11) [10, 11]))))) (sSeq (sDrop (eMeth "Ideal" "push" m_Ideal_push (eVar 6) (aCons (eVar 4) (aCons (eVar 9) (aNil))))) (sPutR (eVar 7) (eVar 4) (eCall m__law_inserted (aCons (eIx (lE (eVar 7)) (eVar 4)) (aCons (eVar 9) (aNil)))))) (sNext))) (sIf (tOfB (eCmp (fun _ => cmpI iGt) (eLen (lE (eIx (lE (eVar 7)) (eVar 4)))) (eC (.int 0)))) (sSeq (sIf (tOfB (eCmp cmpNe (eMeth "Ideal" "let_go" m_Ideal_let_go (eVar 6) (aCons (eVar 4) (aNil))) (eIx (lE (eIx (lE (eVar 7)) (eVar 4))) (eC (.int 0))))) (sRet (eC (.bl false))) (sNext)) (sPutR (eVar 7) (eVar 4) (eSlice (lE (eIx (lE (eVar 7)) (eVar 4))) (oSome (eC (.int 1))) oNone))) (sNext)))))
theorem turn_at {S : Store} {T : Nat → Nat × Nat} {E : Nat} {prs : List (Nat × Nat)} {n b : Nat} {r : Rho} (h : StO S T E prs n b) (hr : Rok r n E) (hn : 1 ≤ n) (hn2 : n ≤ 12) (hb : b ≤ 1000) :
    ∃ r3 S3 T3 prs3, turnB r S = .next r3 S3 ∧ Rok r3 n E ∧ StO S3 T3 E prs3 n (b + 1) := by
  unfold turnB
  obtain ⟨k, I, R, j, kind, r2, o, hk, hj, hnow, h2, e⟩ := turn_start h hr hn hn2 (sIf (tAndD (tOfB (eCmp cmpEq (eVar 8) (eC (.int 0)))) (tOfB (eCmp (fun _ => cmpI iLt) (eLen (lE (eVar 3))) (eC (.int 8))))) (sDrop (eAppR (eVar 3) (eTup (aCons (eMeth "Ideal" "copy" m_Ideal_copy (eVar 6) aNil) (aCons (eNew (nLstOf (lE (eVar 7)))) (aNil)))))) (sIf (tOfB (eCmp (fun _ => cmpI iLt) (eVar 8) (eC (.int 4)))) (sSeq (sSet 9 (eCall m__law_key (aCons (eVar 1) (aCons (eC (.int 40)) (aNil))))) (sIf (tOfB (eIn true (eIx (lE (eVar 9)) (eC (.int 1))) (lE (eFrz (nLc (iSeqD (eIx (lE (eVar 7)) (eVar 4))) (gTupD 2 (gsCons (gNameD 10) (gsCons (gNameD 11) (gsNil)))) (tYesD) (eVar 11) [10, 11]))))) (sSeq (sDrop (eMeth "Ideal" "push" m_Ideal_push (eVar 6) (aCons (eVar 4) (aCons (eVar 9) (aNil))))) (sPutR (eVar 7) (eVar 4) (eCall m__law_inserted (aCons (eIx (lE (eVar 7)) (eVar 4)) (aCons (eVar 9) (aNil)))))) (sNext))) (sIf (tOfB (eCmp (fun _ => cmpI iGt) (eLen (lE (eIx (lE (eVar 7)) (eVar 4)))) (eC (.int 0)))) (sSeq (sIf (tOfB (eCmp cmpNe (eMeth "Ideal" "let_go" m_Ideal_let_go (eVar 6) (aCons (eVar 4) (aNil))) (eIx (lE (eIx (lE (eVar 7)) (eVar 4))) (eC (.int 0))))) (sRet (eC (.bl false))) (sNext)) (sPutR (eVar 7) (eVar 4) (eSlice (lE (eIx (lE (eVar 7)) (eVar 4))) (oSome (eC (.int 1))) oNone))) (sNext))))
  rw [e]
  generalize S.set 0 o = S2 at h2
  have ln : eLen (lE (eVar 3)) r2 S2 = .ok (.int prs.length) S2 := by
    rw [eLen_ap, lE_ap, var_at hnow.ok.v3, Rs.bind_ok, srcOf_ref h2.hE, Rs.ofO_some, Rs.bind_ok, get_loc h2.hE, Option.bind_some, Rs.ofO_some]
    simp
  have t1 : tOfB (eCmp cmpEq (eVar 8) (eC (.int 0))) r2 S2 = .ok (decide (kind = 0)) S2 := by
    rw [tOfB_ap, eCmp_ap, var_at hnow.v8, Rs.bind_ok]
    simp
  have t2 : tOfB (eCmp (fun _ => cmpI iLt) (eLen (lE (eVar 3))) (eC (.int 8))) r2 S2 = .ok (decide ((prs.length : Int) < 8)) S2 := by
    rw [tOfB_ap, eCmp_ap, ln, Rs.bind_ok]
    simp
  have t3 : tAndD (tOfB (eCmp cmpEq (eVar 8) (eC (.int 0)))) (tOfB (eCmp (fun _ => cmpI iLt) (eLen (lE (eVar 3))) (eC (.int 8)))) r2 S2 = .ok (decide (kind = 0) && decide ((prs.length : Int) < 8)) S2 := by
    rw [tAndD_ap, t1, Rs.bind_ok]
    by_cases hc : kind = 0
    · simp only [hc, decide_true, if_true, Bool.true_and]
      exact t2
    · simp [hc]
  by_cases hc : kind = 0 ∧ (prs.length : Int) < 8
  · have hv : (decide (kind = 0) && decide ((prs.length : Int) < 8)) = true := by simp [hc.1, hc.2]
    rw [hv] at t3
    rw [if_t t3]
    obtain ⟨S3, T3, prs3, e3, h3⟩ := branch_copy h2 hn hn2 hk hnow (by omega)
    exact ⟨r2, S3, T3, prs3, e3, hnow.ok, h3⟩
  · have hv : (decide (kind = 0) && decide ((prs.length : Int) < 8)) = false := by
      rw [Bool.and_eq_false_iff, decide_eq_false_iff_not, decide_eq_false_iff_not]
      by_cases h1 : kind = 0
      · exact .inr fun h2 => hc ⟨h1, h2⟩
      · exact .inl h1
    rw [hv] at t3
    rw [if_f t3]
    have t4 : tOfB (eCmp (fun _ => cmpI iLt) (eVar 8) (eC (.int 4))) r2 S2 = .ok (decide (kind < 4)) S2 := by
      rw [tOfB_ap, eCmp_ap, var_at hnow.v8, Rs.bind_ok]
      simp
    by_cases h4 : kind < 4
    · rw [decide_eq_true h4] at t4
      rw [if_t t4]
      obtain ⟨r3, S3, T3, prs3, e3, hr3, h3⟩ := branch_push h2 hb hk hnow hj
      exact ⟨r3, S3, T3, prs3, e3, hr3, h3⟩
    · rw [decide_eq_false h4] at t4
      rw [if_f t4]
      obtain ⟨S3, e3, h3⟩ := branch_pop h2 hk hnow hj
      exact ⟨r2, S3, T, prs, e3, hnow.ok, h3⟩
/-! ### what the law asks at the end -/
noncomputable def lastB : DS := sSeq (sIf (tOfB (eCmp cmpNe (eFrz (nLc (iRange1 (eVar 2)) (gNameD 4) (tYesD) (eMeth "Ideal" "held" m_Ideal_held (eVar 13) (aCons (eVar 4) (aNil))) [4])) (eFrz (nLc (iSeqD (eVar 7)) (gNameD 14) (tYesD) (eTupOf (lE (eVar 14))) [14])))) (sRet (eC (.bl false))) (sNext)) (sSeq (sSet 15 (eFrz (nLc (iSeqD (eVar 3)) (gTupD 2 (gsCons (gNameD 16) (gsCons (gNameD 17) (gsNil)))) (tYesD) (eCmp (cmpSame "Ideal") (eVar 13) (eVar 16)) [16, 17]))) (sIf (tOrD (tOfB (eCmp cmpNe (eCount (lE (eVar 15)) (eC (.bl true))) (eC (.int 1)))) (tOfB (eCmp cmpNe (eIndex (lE (eVar 15)) (eC (.bl true))) (eVar 12)))) (sRet (eC (.bl false))) (sNext)))
def tupD (r : List Key) : D := .tup (r.map keyD)
theorem eq_tups : ∀ rows : List (List Key), eqDs (rows.map tupD) (rows.map tupD) = true
  | [] => rfl
  | r :: rows => by simp [eqDs, tupD, eqD, eq_keys r, eq_tups rows]
theorem pl_tups : ∀ rows : List (List Key), D.pls 63 (rows.map tupD) = true
  | [] => rfl
  | r :: rows => by simp [D.pls, pl_tups rows, tupD, D.pl, pl_keys r]
theorem pl_bls : ∀ bs : List Bool, D.pls 63 (bs.map D.bl) = true
  | [] => rfl
  | b :: bs => by simp [D.pls, pl_bls bs, D.pl]
theorem count_at {i : Nat} : ∀ m a : Nat, ((List.range' a m).map fun k => D.bl (decide (i = k))).countP (fun z => eqD z (.bl true)) = if a ≤ i ∧ i < a + m then 1 else 0
  | 0, a => by simp
  | m + 1, a => by
    rw [List.range'_succ, List.map_cons, List.countP_cons, count_at m (a + 1)]
    by_cases h : i = a
    · subst h
      have e : eqD (.bl (decide (i = i))) (.bl true) = true := by simp [eqD]
      rw [if_pos e, if_neg (by omega), if_pos (by omega)]
    · have e : ¬ eqD (.bl (decide (i = a))) (.bl true) = true := by simp [eqD, h]
      rw [if_neg e]
      by_cases h2 : a + 1 ≤ i ∧ i < a + 1 + m
      · rw [if_pos h2, if_pos (by omega)]
      · rw [if_neg h2, if_neg (by omega)]
theorem find_at {i m : Nat} (h : i < m) : ((List.range m).map fun k => D.bl (decide (i = k))).findIdx (fun z => eqD z (.bl true)) = i := by
  rw [List.findIdx_eq (by simpa using h)]
  refine ⟨by simp [eqD], fun j hj => ?_⟩
  simp [eqD]
  omega
theorem last_at {S : Store} {T : Nat → Nat × Nat} {E : Nat} {prs : List (Nat × Nat)} {n b i I R : Nat} {r : Rho} (h : StO S T E prs n b) (hr : Rok r n E) (hn2 : n ≤ 12) (hi : prs[i]? = some (I, R)) (w12 : r[12]? = some (.val (.int i))) (w13 : r[13]? = some (.val (.ref I))) (w7 : r[7]? = some (.val (.ref R))) :
    ∃ r3, lastB r S = .next r3 S ∧ Rok r3 n E := by
  obtain ⟨L, ls, rows, q⟩ := h.one i I R hi
  have him : i < prs.length := (List.getElem?_eq_some_iff.mp hi).1
  have e1 : eFrz (nLc (iRange1 (eVar 2)) (gNameD 4) (tYesD) (eMeth "Ideal" "held" m_Ideal_held (eVar 13) (aCons (eVar 4) (aNil))) [4]) r S = .ok (.lst (rows.map tupD)) S := by
    refine frz_at (lc_at (iRange1_nat (n := n) (by omega) (var_at hr.v2)) ?_)
    rw [rangeD_nat]
    refine lcGo_pure trivial (by simp [q.nr]) fun j x y hx hy => ?_
    obtain ⟨j2, hj2, rfl⟩ := get_map hx
    obtain ⟨r0, hr0, rfl⟩ := get_map hy
    have hjn : j < n := by
      have := (List.getElem?_eq_some_iff.mp hr0).1
      rw [q.nr] at this
      exact this
    have hj3 : j2 = j := by
      rw [List.getElem?_range hjn] at hj2
      exact (Option.some.inj hj2).symm
    subst hj3
    obtain ⟨l, hl⟩ : ∃ l, ls[j2]? = some l := ⟨ls[j2]'(by rw [q.nl]; exact hjn), by simp [q.nl, hjn]⟩
    have hh := held_ok q.hI q.hL hl (q.row j2 l r0 hl hr0).1
    refine ⟨(wipeD r [4]).set 4 (.val (.int j2)), by simp [gNameD, wipeD, hr.len], rfl, ?_⟩
    have a13 : ((wipeD r [4]).set 4 (.val (.int j2)))[13]? = some (.val (.ref I)) := slot_old (by decide) (slot_old (by decide) w13)
    have a4 : ((wipeD r [4]).set 4 (.val (.int j2)))[4]? = some (.val (.int j2)) := slot_new (by simp [wipeD, hr.len])
    rw [meth_at (var_at a13) q.hI (look_ne (by decide +kernel)) (cons_at (var_at a4) nil_at)]
    exact hh
  have e2 : eFrz (nLc (iSeqD (eVar 7)) (gNameD 14) (tYesD) (eTupOf (lE (eVar 14))) [14]) r S = .ok (.lst (rows.map tupD)) S := by
    refine frz_at (lc_at (wk := ⟨rows.map rowD, fun S => S[R]? = some (.lst (rows.map rowD))⟩) (S' := S) ?_ ?_)
    · rw [iSeqD_ap, var_at w7, Rs.bind_ok]
      simp [wkOf, q.hR]
    · refine lcGo_pure q.hR (by simp) fun j x y hx hy => ?_
      obtain ⟨r0, hr0, rfl⟩ := get_map hx
      obtain ⟨r1, hr1, rfl⟩ := get_map hy
      rw [hr0] at hr1
      cases hr1
      refine ⟨(wipeD r [14]).set 14 (.val (rowD r0)), by simp [gNameD, wipeD, hr.len], rfl, ?_⟩
      have a14 : ((wipeD r [14]).set 14 (.val (rowD r0)))[14]? = some (.val (rowD r0)) := slot_new (by simp [wipeD, hr.len])
      rw [eTupOf_ap, lE_ap, var_at a14, Rs.bind_ok]
      rfl
  have s1 : sIf (tOfB (eCmp cmpNe (eFrz (nLc (iRange1 (eVar 2)) (gNameD 4) (tYesD) (eMeth "Ideal" "held" m_Ideal_held (eVar 13) (aCons (eVar 4) (aNil))) [4])) (eFrz (nLc (iSeqD (eVar 7)) (gNameD 14) (tYesD) (eTupOf (lE (eVar 14))) [14])))) (sRet (eC (.bl false))) (sNext) r S = .next r S := by
    rw [if_f (S' := S)]
    · rfl
    · rw [tOfB_ap, eCmp_ap, e1, Rs.bind_ok, e2, Rs.bind_ok, cmpNe_self (S := S) (d := .lst (rows.map tupD)) (by simp only [flatL, D.pl]; exact pl_tups rows) (by simp only [flatL, eqD]; exact eq_tups rows)]
      rfl
  have e3 : eFrz (nLc (iSeqD (eVar 3)) (gTupD 2 (gsCons (gNameD 16) (gsCons (gNameD 17) (gsNil)))) (tYesD) (eCmp (cmpSame "Ideal") (eVar 13) (eVar 16)) [16, 17]) r S = .ok (.lst ((List.range prs.length).map fun k => D.bl (decide (i = k)))) S := by
    refine frz_at (lc_at (wk := ⟨prs.map prD, fun S => S[E]? = some (.lst (prs.map prD))⟩) (S' := S) ?_ ?_)
    · rw [iSeqD_ap, var_at hr.v3, Rs.bind_ok]
      simp [wkOf, h.hE]
    · refine lcGo_pure h.hE (by simp) fun j x y hx hy => ?_
      obtain ⟨⟨I', R'⟩, hp, rfl⟩ := get_map hx
      obtain ⟨j2, hj2, rfl⟩ := get_map hy
      have hjm : j < prs.length := (List.getElem?_eq_some_iff.mp hp).1
      have hj3 : j2 = j := by
        rw [List.getElem?_range hjm] at hj2
        exact (Option.some.inj hj2).symm
      subst hj3
      obtain ⟨L', ls', rows', q'⟩ := h.one j2 I' R' hp
      refine ⟨((wipeD r [16, 17]).set 16 (.val (.ref I'))).set 17 (.val (.ref R')), by simp [prD, gTupD, gsCons, gsNil, gNameD, wipeD, hr.len], rfl, ?_⟩
      have a13 : (((wipeD r [16, 17]).set 16 (.val (.ref I'))).set 17 (.val (.ref R')))[13]? = some (.val (.ref I)) := slot_old (by decide) (slot_old (by decide) (slot_old (by decide) (slot_old (by decide) w13)))
      have a16 : (((wipeD r [16, 17]).set 16 (.val (.ref I'))).set 17 (.val (.ref R')))[16]? = some (.val (.ref I')) := slot_old (by decide) (slot_new (by simp [wipeD, hr.len]))
      rw [eCmp_ap, var_at a13, Rs.bind_ok, var_at a16, Rs.bind_ok]
      have same : decide (I = I') = decide (i = j2) := by
        by_cases e : i = j2
        · subst e
          rw [hi] at hp
          cases hp
          simp
        · rw [decide_eq_false e, decide_eq_false fun z => e ?_]
          have t1 := q.tI
          rw [z, q'.tI] at t1
          have := congrArg (·.1) t1
          simp at this
          exact this.symm
      have hc : cmpSame "Ideal" S (.ref I) (.ref I') = some (decide (i = j2)) := by
        rw [← same]
        simp [cmpSame, q.hI, q'.hI, ideal]
      rw [hc]
      rfl
  have s2 := set_at (i := 15) e3 (by rw [hr.len]; decide)
  have hr2 : Rok (r.set 15 (.val (.lst ((List.range prs.length).map fun k => D.bl (decide (i = k)))))) n E := hr.set (by decide) (by decide) (by decide)
  have w15 : (r.set 15 (.val (.lst ((List.range prs.length).map fun k => D.bl (decide (i = k))))))[15]? = some (.val (.lst ((List.range prs.length).map fun k => D.bl (decide (i = k))))) := slot_new (by rw [hr.len]; decide)
  have w12' : (r.set 15 (.val (.lst ((List.range prs.length).map fun k => D.bl (decide (i = k))))))[12]? = some (.val (.int i)) := slot_old (by decide) w12
  generalize r.set 15 (.val (.lst ((List.range prs.length).map fun k => D.bl (decide (i = k))))) = r2 at s2 hr2 w15 w12'
  have pls : D.pls 63 ((List.range prs.length).map fun k => D.bl (decide (i = k))) = true := by
    have := pl_bls ((List.range prs.length).map fun k => decide (i = k))
    rwa [List.map_map] at this
  have cnt : eCount (lE (eVar 15)) (eC (.bl true)) r2 S = .ok (.int (1 : Nat)) S := by
    rw [eCount_ap, lE_ap, var_at w15, Rs.bind_ok, srcOf_lst, Rs.ofO_some, Rs.bind_ok, isT_cst, get_cst]
    simp only [Bool.false_eq_true, if_false, Rs.ofO_some, Rs.bind_ok, eC_ap, get_cst]
    rw [if_pos (by rw [pls]; rfl), List.range_eq_range', count_at, if_pos (by omega)]
  have anyT : ((List.range prs.length).map fun k => D.bl (decide (i = k))).any (fun z => eqD z (.bl true)) = true := by
    rw [List.any_eq_true]
    exact ⟨.bl (decide (i = i)), List.mem_map.mpr ⟨i, by simpa using him, rfl⟩, by simp [eqD]⟩
  have ind : eIndex (lE (eVar 15)) (eC (.bl true)) r2 S = .ok (.int i) S := by
    rw [eIndex_ap, lE_ap, var_at w15, Rs.bind_ok, srcOf_lst, Rs.ofO_some, Rs.bind_ok, isT_cst, get_cst]
    simp only [Bool.false_eq_true, if_false, Rs.ofO_some, Rs.bind_ok, eC_ap, get_cst]
    rw [if_pos (by rw [pls, anyT]; rfl), find_at him]
  have s3 : sIf (tOrD (tOfB (eCmp cmpNe (eCount (lE (eVar 15)) (eC (.bl true))) (eC (.int 1)))) (tOfB (eCmp cmpNe (eIndex (lE (eVar 15)) (eC (.bl true))) (eVar 12)))) (sRet (eC (.bl false))) (sNext) r2 S = .next r2 S := by
    have t1 : tOfB (eCmp cmpNe (eCount (lE (eVar 15)) (eC (.bl true))) (eC (.int 1))) r2 S = .ok false S := by
      rw [tOfB_ap, eCmp_ap, cnt, Rs.bind_ok]
      simp
    have t2 : tOfB (eCmp cmpNe (eIndex (lE (eVar 15)) (eC (.bl true))) (eVar 12)) r2 S = .ok false S := by
      rw [tOfB_ap, eCmp_ap, ind, Rs.bind_ok, var_at w12', Rs.bind_ok]
      simp
    rw [if_f (S' := S)]
    · rfl
    · rw [tOrD_ap, t1, Rs.bind_ok, if_neg Bool.false_ne_true, t2]
  refine ⟨r2, ?_, hr2⟩
  unfold lastB
  rw [seq_next s1, seq_next s2, s3]
end L07

set_option Elab.async false
set_option linter.all false
set_option maxRecDepth 100000
set_option maxHeartbeats 4000000
namespace L07
open PySem Dn
theorem enum_at {xs : List D} {i : Nat} {x : D} (h : (enumD 0 xs)[i]? = some x) : ∃ y, xs[i]? = some y ∧ x = .tup [.int (i : Nat), y] := by
  have : ∀ (k : Nat) (xs : List D) (i : Nat), (enumD k xs)[i]? = (xs[i]?).map fun x => .tup [.int ((k + i : Nat) : Int), x] := by
    intro k xs
    induction xs generalizing k with
    | nil => intro i; simp [enumD]
    | cons y ys ih =>
      intro i
      cases i with
      | zero => simp [enumD]
      | succ i =>
        simp only [enumD, List.getElem?_cons_succ]
        rw [ih (k + 1) i]
        have : k + 1 + i = k + (i + 1) := by omega
        rw [this]
  rw [this 0 xs i] at h
  cases q : xs[i]? with
  | none => rw [q] at h; cases h
  | some y =>
    rw [q] at h
    cases h
    exact ⟨y, rfl, by simp⟩
theorem enum_len (k : Nat) (xs : List D) : (enumD k xs).length = xs.length := by
  induction xs generalizing k with
  | nil => rfl
  | cons y ys ih => simp [enumD, ih]
theorem lawB_eq : b_law = sSeq (sSet 1 (eCall m__law_hand (aCons (eVar 0) (aNil)))) (sSeq (sSet 2 (eCall m__law_any (aCons (eVar 1) (aCons (eFrz (nLst (aCons (eC (.int 1)) (aCons (eC (.int 2)) (aCons (eC (.int 5)) (aNil)))))) (aNil))))) (sSeq (sSet 3 (eNew (nLst (aCons (eTup (aCons (eMake "Ideal" m_Ideal_init (aCons (eVar 2) (aNil))) (aCons (eNew (nLc (iRange1 (eVar 2)) (gNameD 4) (tYesD) (eFrz (nLst (aNil))) [4])) (aNil)))) (aNil))))) (sSeq (sFor (iRange1 (eOp opAdd (eC (.int 10)) (eCall m__law_draw (aCons (eVar 1) (aCons (eC (.int 40)) (aNil)))))) (gNameD 5) turnB) (sSeq (sFor (iEnumD (eVar 3)) (gTupD 2 (gsCons (gNameD 12) (gsCons (gTupD 2 (gsCons (gNameD 13) (gsCons (gNameD 7) (gsNil)))) (gsNil)))) lastB) (sRet (eC (.bl true))))))) := rfl
theorem law_pure (ns : List Int) (h63 : ns.length ≤ 63) : ∃ S, m_law [.lst (ns.map D.int)] [] = .ok (.bl true) S := by
  -- the hand
  obtain ⟨gs, c, e1, hg⟩ := hand_ok (ns := ns) (S := [])
  have e1 : m__law_hand [.lst (ns.map D.int)] [] = .ok (.ref 0) [handO gs (0 : Nat) 0 c 0] := e1
  have h1 : HandOk [handO gs (0 : Nat) 0 c 0] 0 := ⟨gs, 0, 0, c, 0, rfl, Int.le_refl _, hg⟩
  generalize hS1 : ([handO gs (0 : Nat) 0 c 0] : Store) = S1 at e1 h1
  have len1 : S1.length = 1 := by rw [← hS1]; rfl
  -- how many outputs
  obtain ⟨v, x, o, e2, h2, hx⟩ := any_lst (xs := ([1, 2, 5] : List Int).map D.int) h1 (by simp) (by simp)
  obtain ⟨m, hm, rfl⟩ := get_map hx
  have hm2 := List.mem_of_getElem? hm
  obtain ⟨n, hn, hn1, hn2⟩ : ∃ n : Nat, m = n ∧ 1 ≤ n ∧ n ≤ 12 := by
    simp only [List.mem_cons, List.not_mem_nil, or_false] at hm2
    exact ⟨m.toNat, by omega, by omega, by omega⟩
  subst hn
  have len2 : (S1.set 0 o).length = 1 := by rw [List.length_set, len1]
  generalize S1.set 0 o = S2 at e2 h2 len2
  -- the first pair
  let r0 : Rho := Sl.val (.lst (ns.map D.int)) :: List.replicate 17 Sl.un
  let r1 : Rho := r0.set 1 (.val (.ref 0))
  let r2 : Rho := r1.set 2 (.val (.int n))
  have w1 : r1[1]? = some (.val (.ref 0)) := rfl
  have w21 : r2[1]? = some (.val (.ref 0)) := rfl
  have w22 : r2[2]? = some (.val (.int n)) := rfl
  have s1 : sSet 1 (eCall m__law_hand (aCons (eVar 0) (aNil))) r0 [] = .next r1 S1 := set_at (call_at (cons_at (var_at (d := .lst (ns.map D.int)) rfl) nil_at) e1) (by simp [r0])
  have c0 : ∀ (i : Int) (r : Rho) (S : Store), eC (.int i) r S = .ok (.int i) S := fun _ _ _ => rfl
  have s2 : sSet 2 (eCall m__law_any (aCons (eVar 1) (aCons (eFrz (nLst (aCons (eC (.int 1)) (aCons (eC (.int 2)) (aCons (eC (.int 5)) (aNil)))))) (aNil)))) r1 S1 = .next r2 S2 := by
    refine set_at (call_at (cons_at (var_at w1) (cons_at (frz_at (xs := ([1, 2, 5] : List Int).map D.int) ?_) nil_at)) e2) (by simp [r1, r0])
    rw [nLst_ap, cons_at (c0 _ _ _) (cons_at (c0 _ _ _) (cons_at (c0 _ _ _) nil_at)), Rs.bind_ok, if_pos (by rw [sizeLine_val]; simp)]
    rfl
  have i1 := init_ok (S := S2 ++ [.ins "Ideal" []]) (I := S2.length) (n := n) (by simp) hn1 hn2
  generalize hS3 : ((S2 ++ [SO.ins "Ideal" []] ++ List.replicate n (SO.lst []) ++ [SO.lst ((List.range n).map fun i => D.ref ((S2 ++ [SO.ins "Ideal" []]).length + i))]).set S2.length (ideal ((S2 ++ [SO.ins "Ideal" []]).length + n))) = S3 at i1
  have l3 : S3.length = n + 3 := by rw [← hS3]; simp [len2]; omega
  have g0 : S3[0]? = S2[0]? := by
    rw [← hS3, set_get_ne _ (by omega), List.append_assoc, List.append_assoc, List.getElem?_append_left (by omega)]
  have g1 : S3[1]? = some (ideal (n + 2)) := by
    rw [← hS3, len2, set_get _ (by simp [len2])]
    have : (S2 ++ [SO.ins "Ideal" []]).length + n = n + 2 := by simp [len2]; omega
    rw [this]
  have g2 : ∀ j, j < n → S3[2 + j]? = some (.lst []) := fun j hj => by
    rw [← hS3, set_get_ne _ (by omega), List.getElem?_append_left (by simp [len2]; omega), List.getElem?_append_right (by simp [len2])]
    have : 2 + j - (S2 ++ [SO.ins "Ideal" []]).length = j := by simp [len2]
    rw [this, List.getElem?_replicate, if_pos hj]
  have g3 : S3[n + 2]? = some (.lst (((List.range n).map fun i => 2 + i).map D.ref)) := by
    rw [← hS3, set_get_ne _ (by omega), List.getElem?_append_right (by simp [len2]; omega)]
    have : n + 2 - (S2 ++ [SO.ins "Ideal" []] ++ List.replicate n (SO.lst [])).length = 0 := by simp [len2]; omega
    rw [this]
    simp [len2]
  have mk : eMake "Ideal" m_Ideal_init (aCons (eVar 2) (aNil)) r2 S2 = .ok (.ref 1) S3 := by
    have := make_at (c := "Ideal") (m := m_Ideal_init) (cons_at (var_at w22) nil_at) i1
    rw [len2] at this
    exact this
  have rw1 : eNew (nLc (iRange1 (eVar 2)) (gNameD 4) (tYesD) (eFrz (nLst (aNil))) [4]) r2 S3 = .ok (.ref (n + 3)) (S3 ++ [.lst ((List.replicate n ([] : List Key)).map rowD)]) := by
    have lc : nLc (iRange1 (eVar 2)) (gNameD 4) (tYesD) (eFrz (nLst (aNil))) [4] r2 S3 = .ok ((List.replicate n ([] : List Key)).map rowD) S3 := by
      refine lc_at (iRange1_nat (n := n) (by omega) (var_at w22)) ?_
      refine lcGo_pure trivial (by simp [rangeD]) fun i x y hx hy => ?_
      obtain ⟨r, hr, rfl⟩ := get_map hy
      have : r = [] := List.eq_of_mem_replicate (List.mem_of_getElem? hr)
      subst this
      exact ⟨(wipeD r2 [4]).set 4 (.val x), by simp [gNameD, wipeD, r2, r1, r0], rfl, rfl⟩
    rw [new_at lc, l3]
  let S4 : Store := S3 ++ [.lst ((List.replicate n ([] : List Key)).map rowD)]
  have ev : eNew (nLst (aCons (eTup (aCons (eMake "Ideal" m_Ideal_init (aCons (eVar 2) (aNil))) (aCons (eNew (nLc (iRange1 (eVar 2)) (gNameD 4) (tYesD) (eFrz (nLst (aNil))) [4])) (aNil)))) (aNil))) r2 S2 = .ok (.ref (n + 4)) (S4 ++ [.lst ([(1, n + 3)].map prD)]) := by
    have t : eTup (aCons (eMake "Ideal" m_Ideal_init (aCons (eVar 2) (aNil))) (aCons (eNew (nLc (iRange1 (eVar 2)) (gNameD 4) (tYesD) (eFrz (nLst (aNil))) [4])) (aNil))) r2 S2 = .ok (prD (1, n + 3)) S4 := by
      rw [eTup_ap, cons_at mk (cons_at rw1 nil_at), Rs.bind_ok, if_pos (by rw [sizeLine_val]; simp)]
      rfl
    have l4 : S4.length = n + 4 := by simp [S4, l3]
    have a : nLst (aCons (eTup (aCons (eMake "Ideal" m_Ideal_init (aCons (eVar 2) (aNil))) (aCons (eNew (nLc (iRange1 (eVar 2)) (gNameD 4) (tYesD) (eFrz (nLst (aNil))) [4])) (aNil)))) (aNil)) r2 S2 = .ok [prD (1, n + 3)] S4 := by
      rw [nLst_ap, cons_at t nil_at, Rs.bind_ok, if_pos (by rw [sizeLine_val]; simp)]
    rw [new_at a, l4]
    rfl
  let S5 : Store := S4 ++ [.lst ([(1, n + 3)].map prD)]
  let r3 : Rho := r2.set 3 (.val (.ref (n + 4)))
  have s3 : sSet 3 (eNew (nLst (aCons (eTup (aCons (eMake "Ideal" m_Ideal_init (aCons (eVar 2) (aNil))) (aCons (eNew (nLc (iRange1 (eVar 2)) (gNameD 4) (tYesD) (eFrz (nLst (aNil))) [4])) (aNil)))) (aNil)))) r2 S2 = .next r3 S5 := set_at ev (by simp [r2, r1, r0])
  have ok3 : Rok r3 n (n + 4) := ⟨by simp [r3, r2, r1, r0], rfl, rfl, rfl⟩
  have old5 : ∀ x, x < n + 3 → S5[x]? = S3[x]? := fun x hx => by
    show ((S3 ++ [_]) ++ [_])[x]? = _
    rw [List.append_assoc, List.getElem?_append_left (by omega)]
  have st : StO S5 (fun x => if x = 0 then (0, 0) else if x = 1 then (1, 0) else if x = n + 2 then (1, 1) else if x = n + 3 then (1, 2) else if x = n + 4 then (0, 1) else (1, 3 + (x - 2))) (n + 4) [(1, n + 3)] n 0 := by
    refine ⟨hand_congr h2 ((old5 0 (by omega)).trans g0), rfl, ?_, ?_, by simp, by simp, fun k I R hk => ?_⟩
    · show ((S3 ++ [_]) ++ [_])[n + 4]? = _
      rw [List.getElem?_append_right (by simp [l3])]
      simp [l3]
    · show (if n + 4 = 0 then _ else _) = _
      rw [if_neg (by omega), if_neg (by omega), if_neg (by omega), if_neg (by omega), if_pos rfl]
    · have hk0 : k = 0 := by
        have := (List.getElem?_eq_some_iff.mp hk).1
        simpa using this
      subst hk0
      cases hk
      refine ⟨n + 2, (List.range n).map fun i => 2 + i, List.replicate n [], ⟨(old5 1 (by omega)).trans g1, rfl, (old5 (n + 2) (by omega)).trans g3, ?_, ?_, ?_, by simp, by simp, fun j l r hl hr => ?_, fun r hr => ?_⟩⟩
      · show (if n + 2 = 0 then _ else _) = _
        rw [if_neg (by omega), if_neg (by omega), if_pos rfl]
      · show ((S3 ++ [_]) ++ [_])[n + 3]? = _
        rw [List.append_assoc, List.getElem?_append_right (by omega)]
        simp [l3]
      · show (if n + 3 = 0 then _ else _) = _
        rw [if_neg (by omega), if_neg (by omega), if_neg (by omega), if_pos rfl]
      · obtain ⟨i, hi, rfl⟩ := get_map hl
        have hjn : j < n := by
          have := (List.getElem?_eq_some_iff.mp hr).1
          simpa using this
        have hij : i = j := by
          rw [List.getElem?_range hjn] at hi
          exact (Option.some.inj hi).symm
        subst hij
        have : r = [] := List.eq_of_mem_replicate (List.mem_of_getElem? hr)
        subst this
        refine ⟨(old5 (2 + i) (by omega)).trans (g2 i hjn), ?_⟩
        have a1 : ¬ 2 + i = 0 := by omega
        have a2 : ¬ 2 + i = 1 := by omega
        have a3 : ¬ 2 + i = n + 2 := by omega
        have a4 : ¬ 2 + i = n + 3 := by omega
        have a5 : ¬ 2 + i = n + 4 := by omega
        have a6 : 2 + i - 2 = i := by omega
        simp only [a1, a2, a3, a4, a5, if_false, a6]
      · have := List.eq_of_mem_replicate hr
        subst this
        exact ⟨List.Pairwise.nil, Nat.le_refl _⟩
  -- the turns
  obtain ⟨w, o6, e6, h6, w1', w2'⟩ := draw_at (many := 40) st.hand (by decide) (by decide)
  have st6 := st.drawn h6
  have hw : iRange1 (eOp opAdd (eC (.int 10)) (eCall m__law_draw (aCons (eVar 1) (aCons (eC (.int 40)) (aNil))))) r3 S5 = .ok (wkS (rangeD 0 (10 + w))) (S5.set 0 o6) := by
    have e : eOp opAdd (eC (.int 10)) (eCall m__law_draw (aCons (eVar 1) (aCons (eC (.int 40)) (aNil)))) r3 S5 = .ok (.int ((10 + w).toNat : Nat)) (S5.set 0 o6) := by
      have hc : (((10 + w).toNat : Nat) : Int) = 10 + w := by omega
      rw [hc]
      exact op_at (c0 10 _ _) (call_at (cons_at (var_at ok3.v1) (cons_at (c0 40 _ _) nil_at)) e6) rfl
    have := iRange1_nat (n := (10 + w).toNat) (by omega) e
    have hc : (((10 + w).toNat : Nat) : Int) = 10 + w := by omega
    rw [hc] at this
    exact this
  obtain ⟨r7, S7, e7, ⟨T7, prs7, st7, ok7, _⟩⟩ := forGo_inv (ok := fun _ => True) (g := gNameD 5) (b := turnB) (fun b r S => ∃ T prs, StO S T (n + 4) prs n b ∧ Rok r n (n + 4) ∧ True) (rangeD 0 (10 + w)) 0 r3 (S5.set 0 o6) ⟨_, _, st6, ok3, trivial⟩ (fun _ _ _ _ => trivial) fun i x r S hx hp => by
    obtain ⟨T, prs, hs, hr, _⟩ := hp
    have hi : i < (rangeD 0 (10 + w)).length := (List.getElem?_eq_some_iff.mp hx).1
    have hi2 : i < 50 := by
      simp [rangeD] at hi
      omega
    have hr5 : Rok (r.set 5 (.val x)) n (n + 4) := hr.set (by decide) (by decide) (by decide)
    obtain ⟨r9, S9, T9, prs9, e9, ok9, st9⟩ := turn_at hs hr5 hn1 hn2 (by omega)
    exact ⟨r.set 5 (.val x), by simp [gNameD, hr.len], r9, S9, .inl e9, T9, prs9, st9, ok9, trivial⟩
  have s4 : sFor (iRange1 (eOp opAdd (eC (.int 10)) (eCall m__law_draw (aCons (eVar 1) (aCons (eC (.int 40)) (aNil)))))) (gNameD 5) turnB r3 S5 = .next r7 S7 := by
    rw [sFor_ap, hw, Rs.toS_ok]
    exact e7
  -- what is asked at the end
  have hw2 : iEnumD (eVar 3) r7 S7 = .ok ⟨enumD 0 (prs7.map prD), fun S => S[n + 4]? = some (.lst (prs7.map prD))⟩ S7 := by
    have hp8 := st7.p8
    rw [iEnumD_ap, var_at ok7.v3, Rs.bind_ok]
    have hk : wkL S7 (.ref (n + 4)) = some ⟨prs7.map prD, fun S => S[n + 4]? = some (.lst (prs7.map prD))⟩ := by simp [wkL, wkOf, st7.hE]
    rw [hk]
    dsimp only
    rw [if_pos (by rw [sizeLine_val]; simp; omega)]
  obtain ⟨r8, S8, e8, ⟨hS8, ok8⟩⟩ := forGo_inv (ok := fun S => S[n + 4]? = some (.lst (prs7.map prD))) (g := gTupD 2 (gsCons (gNameD 12) (gsCons (gTupD 2 (gsCons (gNameD 13) (gsCons (gNameD 7) (gsNil)))) (gsNil)))) (b := lastB) (fun _ r S => S = S7 ∧ Rok r n (n + 4)) (enumD 0 (prs7.map prD)) 0 r7 S7 ⟨rfl, ok7⟩ (fun _ _ S hp => by rw [hp.1]; exact st7.hE) fun i x r S hx hp => by
    obtain ⟨rfl, hr⟩ := hp
    obtain ⟨y, hy, rfl⟩ := enum_at hx
    obtain ⟨⟨I, R⟩, hpr, rfl⟩ := get_map hy
    have hr2 : Rok (((r.set 12 (.val (.int (i : Nat)))).set 13 (.val (.ref I))).set 7 (.val (.ref R))) n (n + 4) := ((hr.set (by decide) (by decide) (by decide)).set (by decide) (by decide) (by decide)).set (by decide) (by decide) (by decide)
    obtain ⟨r9, e9, ok9⟩ := last_at st7 hr2 hn2 hpr (slot_old (by decide) (slot_old (by decide) (slot_new (by rw [hr.len]; decide)))) (slot_old (by decide) (slot_new (by rw [List.length_set, hr.len]; decide))) (slot_new (by rw [List.length_set, List.length_set, hr.len]; decide))
    exact ⟨_, by simp [prD, gTupD, gsCons, gsNil, gNameD, hr.len], r9, _, .inl e9, rfl, ok9⟩
  have s5 : sFor (iEnumD (eVar 3)) (gTupD 2 (gsCons (gNameD 12) (gsCons (gTupD 2 (gsCons (gNameD 13) (gsCons (gNameD 7) (gsNil)))) (gsNil)))) lastB r7 S7 = .next r8 S8 := by
    rw [sFor_ap, hw2, Rs.toS_ok]
    exact e8
  refine ⟨S8, ?_⟩
  unfold m_law
  refine fnD_ret (r := r8) rfl ?_
  show b_law r0 [] = _
  rw [lawB_eq, seq_next s1, seq_next s2, seq_next s3, seq_next s4, seq_next s5]
  rfl
end L07

set_option Elab.async false
set_option linter.all false
set_option maxRecDepth 100000
set_option maxHeartbeats 0
namespace L07
open PySem PySem.Spec PyProof.Rows L2 Dn
abbrev R : PySem.W.OpenRow := PySem.W.OpenLaw.row PySem.Challenge.rw_exactbeats_k07_whole_copies_of_ideal_swi
abbrev hk : PySem.W.Hook := hookX 4 fx fa fn
def ob (s : PySem.W.SharedT) : AlX := obsX 4 fx fa fn (HandSHeadRun.getT s)
theorem ob_eq (s : PySem.W.SharedT) : ob s = hk.obs s.abs := obsX_eq (HandSHeadRun.getT_eq s)
def loose : List PySem.Str := (["_wall", "is_integer", "is_within", "is_pair", "FabricError", "NoLines", "NoOutput", "NoKey", "KeyThere", "NothingThere", "MOST_LINES", "check_lines", "MOST_RANK", "is_key", "check_key", "Ideal", "_law_hand", "_law_draw", "_law_any", "_law_key", "_law_inserted"] : List PySem.Str)
theorem run (w : World) : HandSHeadRun.RunEq R (PySem.W.view R.prog [26]) hk ob 3000 loose w := by
  intro os
  kernel_rfl
end L07
open PySem PySem.W PySem.Calls PyProof.Rows
theorem PySem.Challenge.cw_exactbeats_k07_whole_copies_of_ideal_swi_holds : PySem.Challenge.rw_exactbeats_k07_whole_copies_of_ideal_swi.Holds := by
  w_on; o_law
  refine HandSHeadRun.head_any (r := OpenLaw.row PySem.Challenge.rw_exactbeats_k07_whole_copies_of_ideal_swi) (q := view (OpenLaw.row PySem.Challenge.rw_exactbeats_k07_whole_copies_of_ideal_swi).prog [26]) (H := L07.hk) (ob := L07.ob) (M := 3000) (loose := L07.loose) (d := HandSHeadRun.topDef (OpenLaw.row PySem.Challenge.rw_exactbeats_k07_whole_copies_of_ideal_swi).prog 26) (kwd := []) L07.ob_eq
    (by kernel_rfl) (fun s => by kernel_rfl) L07.run (by kernel_rfl) (by kernel_rfl) (by kernel_rfl) (by rfl) (by first | assumption | decide +kernel) (by decide +kernel) ⟨rfl, rfl, rfl, rfl, rfl, by decide +kernel⟩ ?hw ?hc
  case hw => w_witness2
  case hc =>
    refine L2.walk_ofE (l := PySem.Challenge.rw_exactbeats_k07_whole_copies_of_ideal_swi) (n := 63) (k := 7) (x := "_law_script") (CX := L2.CX0) rfl (by decide) (by kernel_rfl) ⟨rfl, by decide, by decide⟩ ?F (fun _ _ _ _ z => z)
    intro w mg fa h Y G hmg0
    obtain ⟨K, KX, c⟩ := Y
    have hmg : mg ("law" : PySem.Str) = some (.ref fa) := by
      have e : (HandSHeadRun.topDef (OpenLaw.row PySem.Challenge.rw_exactbeats_k07_whole_copies_of_ideal_swi).prog 26).name = ("law" : PySem.Str) := by kernel_rfl
      rw [← e]
      exact hmg0
    have fc := L07.fc_of KX G c
    have e := hmg.symm.trans (He.glo_ok KX G (c.fact 32 (f := .glo "law") rfl))
    cases e
    obtain ⟨fd, F, _, _⟩ := L07.ok_law (P := (PySem.Challenge.rw_exactbeats_k07_whole_copies_of_ideal_swi).prog) (w := w) (base := h) fc
    have b := L2.FunD.bindsA (ps := ["_law_script"]) F fun _ _ _ _ _ _ us hl => match us, hl with | [_], _ => rfl
    refine ⟨K, fd, Dn.spN ⟨K, mg⟩ L07.m_law, KX, fun s v => b s [v] rfl, fun H a ns hl hO hS => Dn.law_sp L07.law_pure H a ns hl hO hS, fun base _ _ => ?_⟩
    obtain ⟨fd2, F2, O2, _⟩ := L07.ok_law (P := (PySem.Challenge.rw_exactbeats_k07_whole_copies_of_ideal_swi).prog) (w := w) (base := base) fc
    cases Dn.fd_one F F2
    exact O2

