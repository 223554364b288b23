import PyProof.Rows.All
import Wide.All
import OpenK.AllK
import Wide.FinOn
import KE.SortData
import HandS.ForMost
import HandS.ForExc
import HandS.TupAny
import HandS.TupLe
import HandS.TupMul
import HandS.Deep
import HandS.Zip
import HandS.IsInst
import HandS.Flow
import KE.KStateDown
import KE.DataFind
import HandS.Ends
import HandS.More
import HandS.WordsExc
import HandS.Defaults
import HandS.SetFor
import HandS.Head0
import HandS.Head1
import HandS.Head2
import HandS.HeadEnd
import HandS.HeadHook1
import HandS.HeadHook2
import HandS.Lambda
import HandS.EndTab
import HandS.ExcOwn
import HandS.ExcInit
import HandS.ExcIs
import HandS.ExcField
import HandS.TryMany
import HandS.Small
import PyProof.ExcBaseAll.ValueError
import HandS.HeadHook4
import KE.GoesMore
import KE.GoesEnum
import HandS.Style
import HandS.Dict
import HandS.DictTup
import HandS.Conv
import PyProof.ReprRoads
import PyProof.ReprLen
import PyProof.EqKinds
import HandS.Text
import HandS.DictComp
import HandS.Strs
import KE.DataCmp
import KE.SortLaws
import KE.LtData
import PySem.Challenge.RW_exactbeats_k54_buckets_judged_and_breach
section
set_option Elab.async false
set_option linter.all false
set_option maxRecDepth 100000
set_option maxHeartbeats 4000000
/-! What a small tongue of expressions and statements tells, over values told whole: no machine here. -/
namespace Dn
open PySem
/-! ### values, objects, slots -/
/-- a value told whole: tuples and unchanging lists by their items, other objects by their number -/
inductive D where
  | non | bl (b : Bool) | int (i : Int) | str (x : Str) | tup (xs : List D) | lst (xs : List D) | ref (l : Nat) | cls (x : Str) | fn (x : Str)
/-- a changing object -/
inductive SO where
  | lst (xs : List D) | ins (c : Str) (fs : List (Str × D)) | dct (t : Bool) (kvs : List (D × D))
abbrev Store := List SO
/-- a def's name: without a value, with one, or the only name of a changing list or dict -/
inductive Sl where
  | un | val (d : D) | own (xs : List D) | ownd (t : Bool) (kvs : List (D × D)) | exc (c : Str) (fs : List (Str × D)) | lam
abbrev Rho := List Sl
/-- an end of an expression -/
inductive Rs (a : Type) where
  | ok (x : a) (s : Store) | exc (c : Str) (fs : List (Str × D)) (s : Store) | bad
/-- an end of a statement -/
inductive Sr where
  | next (r : Rho) (s : Store) | ret (d : D) (r : Rho) (s : Store) | brk (r : Rho) (s : Store) | cont (r : Rho) (s : Store) | exc (c : Str) (fs : List (Str × D)) (r : Rho) (s : Store) | bad
def Rs.bind {a b : Type} (x : Rs a) (f : a → Store → Rs b) : Rs b := match x with
  | .ok v s => f v s
  | .exc c fs s => .exc c fs s
  | .bad => .bad
def Rs.toS {a : Type} (x : Rs a) (r : Rho) (f : a → Store → Sr) : Sr := match x with
  | .ok v s => f v s
  | .exc c fs s => .exc c fs r s
  | .bad => .bad
def Rs.ofO {a : Type} (o : Option a) (s : Store) : Rs a := match o with
  | some v => .ok v s
  | none => .bad
def Sr.bind (x : Sr) (f : Rho → Store → Sr) : Sr := match x with
  | .next r s => f r s
  | y => y
/-- an equation that is not told by computing -/
theorem nr {a : Sort u} {x y : a} (h : x = y) : x = y := h
@[simp] theorem Rs.bind_ok {a b : Type} (v : a) (s : Store) (f : a → Store → Rs b) : (Rs.ok v s).bind f = f v s := nr rfl
@[simp] theorem Rs.bind_exc {a b : Type} (c : Str) (fs : List (Str × D)) (s : Store) (f : a → Store → Rs b) : (Rs.exc c fs s : Rs a).bind f = .exc c fs s := nr rfl
@[simp] theorem Rs.bind_bad {a b : Type} (f : a → Store → Rs b) : (Rs.bad : Rs a).bind f = .bad := nr rfl
@[simp] theorem Rs.toS_ok {a : Type} (v : a) (s : Store) (r : Rho) (f : a → Store → Sr) : (Rs.ok v s).toS r f = f v s := nr rfl
@[simp] theorem Rs.toS_exc {a : Type} (c : Str) (fs : List (Str × D)) (s : Store) (r : Rho) (f : a → Store → Sr) : (Rs.exc c fs s : Rs a).toS r f = .exc c fs r s := nr rfl
@[simp] theorem Rs.toS_bad {a : Type} (r : Rho) (f : a → Store → Sr) : (Rs.bad : Rs a).toS r f = .bad := nr rfl
@[simp] theorem Rs.ofO_some {a : Type} (v : a) (s : Store) : Rs.ofO (some v) s = .ok v s := nr rfl
@[simp] theorem Rs.ofO_none {a : Type} (s : Store) : Rs.ofO (none : Option a) s = .bad := nr rfl
@[simp] theorem Sr.bind_next (r : Rho) (s : Store) (f : Rho → Store → Sr) : (Sr.next r s).bind f = f r s := nr rfl
@[simp] theorem Sr.bind_ret (d : D) (r : Rho) (s : Store) (f : Rho → Store → Sr) : (Sr.ret d r s).bind f = .ret d r s := nr rfl
@[simp] theorem Sr.bind_brk (r : Rho) (s : Store) (f : Rho → Store → Sr) : (Sr.brk r s).bind f = .brk r s := nr rfl
@[simp] theorem Sr.bind_cont (r : Rho) (s : Store) (f : Rho → Store → Sr) : (Sr.cont r s).bind f = .cont r s := nr rfl
@[simp] theorem Sr.bind_exc (c : Str) (fs : List (Str × D)) (r : Rho) (s : Store) (f : Rho → Store → Sr) : (Sr.exc c fs r s).bind f = .exc c fs r s := nr rfl
@[simp] theorem Sr.bind_bad (f : Rho → Store → Sr) : Sr.bad.bind f = .bad := nr rfl
abbrev DE := Rho → Store → Rs D
abbrev DT := Rho → Store → Rs Bool
abbrev DA := Rho → Store → Rs (List D)
abbrev DS := Rho → Store → Sr
/-- what a def is worth -/
abbrev Fn := List D → Store → Rs D
/-! ### data -/
mutual
/-- a value without objects, as the library's data (an object as None) -/
def D.P : D → PyData
  | .non => .none
  | .bl b => .bool b
  | .int i => .int i
  | .str x => .str x
  | .tup xs => .tuple (D.Ps xs)
  | .lst xs => .list (D.Ps xs)
  | .ref _ => .none
  | .cls _ => .none
  | .fn _ => .none
def D.Ps : List D → List PyData
  | [] => []
  | x :: xs => x.P :: D.Ps xs
end
mutual
/-- no objects in it, at most k deep, its texts of a size that is let -/
def D.pl : Nat → D → Bool
  | _, .non => true
  | _, .bl _ => true
  | _, .int _ => true
  | _, .str x => PyData.strOk x
  | 0, .tup _ => false
  | 0, .lst _ => false
  | k + 1, .tup xs => D.pls k xs
  | k + 1, .lst xs => D.pls k xs
  | _, .ref _ => false
  | _, .cls _ => false
  | _, .fn _ => false
def D.pls : Nat → List D → Bool
  | _, [] => true
  | k, x :: xs => D.pl k x && D.pls k xs
end
mutual
/-- == of data -/
def eqD : D → D → Bool
  | .non, .non => true
  | .bl a, .bl b => a == b
  | .bl a, .int j => (if a then 1 else 0) == j
  | .int i, .bl b => i == (if b then 1 else 0)
  | .int i, .int j => i == j
  | .str x, .str y => x == y
  | .tup xs, .tup ys => eqDs xs ys
  | .lst xs, .lst ys => eqDs xs ys
  | _, _ => false
def eqDs : List D → List D → Bool
  | [], [] => true
  | x :: xs, y :: ys => eqD x y && eqDs xs ys
  | _, _ => false
end
/-- a list's items, wherever they stand -/
def listOf (S : Store) : D → Option (List D)
  | .lst xs => some xs
  | .ref l => (match S[l]? with
    | some (.lst xs) => some xs
    | _ => none)
  | _ => none
/-- an object that is a list, told as one -/
def flatL (S : Store) (d : D) : D := match d with
  | .ref l => (match S[l]? with
    | some (.lst xs) => .lst xs
    | _ => .ref l)
  | d => d
/-! ### operators -/
def opAdd (S : Store) (x y : D) : Option D := match x, y with
  | .int i, .int j => some (.int (i + j))
  | .str a, .str b => if a.length + b.length ≤ sizeLine then some (.str (a ++ b)) else none
  | .tup xs, .tup ys => if xs.length + ys.length ≤ sizeLine then some (.tup (xs ++ ys)) else none
  | x, y => (match listOf S x, listOf S y with
    | some xs, some ys => if xs.length + ys.length ≤ sizeLine then some (.lst (xs ++ ys)) else none
    | _, _ => none)
def opSub (x y : D) : Option D := match x, y with
  | .int i, .int j => some (.int (i - j))
  | _, _ => none
/-- a factor that is small enough -/
@[irreducible] def mulOk (i j : Int) : Bool := (decide (-(2 ^ 64) < i) && decide (i < 2 ^ 64)) || (decide (-(2 ^ 64) < j) && decide (j < 2 ^ 64))
def opMul (S : Store) (x y : D) : Option D := match x, y with
  | .int i, .int j => if mulOk i j then some (.int (i * j)) else none
  | .tup xs, .int k => if !xs.isEmpty && decide (2 ≤ k) && decide (k ≤ 1000) && decide (xs.length ≤ 1000) then some (.tup (List.replicate k.toNat xs).flatten) else if xs.isEmpty && decide (0 ≤ k) && decide (k ≤ 1000) then some (.tup xs) else none
  | x, .int k => (match listOf S x with
    | some xs => if decide (-(2 ^ 63) ≤ k) && decide (k < 2 ^ 63) && decide (xs.length * k.toNat ≤ sizeLine) then some (.lst (List.replicate k.toNat xs).flatten) else none
    | none => none)
  | _, _ => none
def opDiv (x y : D) : Option D := match x, y with
  | .int i, .int j => if decide (0 < j) && decide (j < 1073741824) then some (.int (i / j)) else none
  | _, _ => none
def opMod (x y : D) : Option D := match x, y with
  | .int i, .int j => if decide (0 < j) then some (.int (i % j)) else none
  | _, _ => none
def opPow (x y : D) : Option D := match x, y with
  | .int i, .int j => if decide (0 ≤ j) && decide (j ≤ 1000000) && decide (i.natAbs < 2 ^ 64) then some (.int (i ^ j.toNat)) else none
  | _, _ => none
def opNeg (x : D) : Option D := match x with
  | .int i => some (.int (-i))
  | _ => none
/-! ### comparisons: over values -/
def cmpEq (S : Store) (x y : D) : Option Bool := if D.pl 64 (flatL S x) && D.pl 64 (flatL S y) then some (eqD (flatL S x) (flatL S y)) else none
def cmpNe (S : Store) (x y : D) : Option Bool := if D.pl 64 (flatL S x) && D.pl 64 (flatL S y) then some (!eqD (flatL S x) (flatL S y)) else none
/-- the order of data that are alike -/
def ltD (x y : D) : Bool := PySem.W.dataLt x.P y.P
def ltOk (x y : D) : Bool := D.pl 64 x && D.pl 64 y && PySem.W.alike x.P y.P && (match x with
  | .int _ => true
  | .tup _ => true
  | .lst _ => true
  | .str _ => true
  | _ => false)
def cmpLt (x y : D) : Option Bool := if ltOk x y then some (ltD x y) else none
/-- of whole numbers -/
def cmpI (p : Int → Int → Bool) (x y : D) : Option Bool := match x, y with
  | .int i, .int j => some (p i j)
  | _, _ => none
abbrev iLt : Int → Int → Bool := fun i j => decide (i < j)
abbrev iLe : Int → Int → Bool := fun i j => decide (i ≤ j)
abbrev iGt : Int → Int → Bool := fun i j => decide (j < i)
abbrev iGe : Int → Int → Bool := fun i j => decide (j ≤ i)
def cmpIsN (x : D) : Option Bool := match x with
  | .non => some true
  | _ => some false
/-- x is True, x is False -/
def cmpIsB (b : Bool) (x : D) : Option Bool := match x with
  | .bl c => some (c == b)
  | _ => some false
/-- of truth values alone -/
def cmpIsT (b : Bool) (x : D) : Option Bool := match x with
  | .bl c => some (c == b)
  | _ => none
/-! ### expressions -/
def eC (d : D) : DE := fun _ S => .ok d S
def eVar (i : Nat) : DE := fun r S => match r[i]? with
  | some (.val d) => .ok d S
  | _ => .bad
def eOp (f : Store → D → D → Option D) (a b : DE) : DE := fun r S => (a r S).bind fun x S => (b r S).bind fun y S => Rs.ofO (f S x y) S
def eUn (f : D → Option D) (a : DE) : DE := fun r S => (a r S).bind fun x S => Rs.ofO (f x) S
/-- a comparison as a value -/
def eCmp (f : Store → D → D → Option Bool) (a b : DE) : DE := fun r S => (a r S).bind fun x S => (b r S).bind fun y S => Rs.ofO ((f S x y).map D.bl) S
def eCmp1 (f : D → Option Bool) (a : DE) : DE := fun r S => (a r S).bind fun x S => Rs.ofO ((f x).map D.bl) S
/-- a chain of two -/
def eChain (f g : Store → D → D → Option Bool) (a b c : DE) : DE := fun r S => (a r S).bind fun x S => (b r S).bind fun y S => (Rs.ofO (f S x y) S).bind fun k S =>
  if k then (c r S).bind fun z S => Rs.ofO ((g S y z).map D.bl) S else .ok (.bl false) S
/-- a value that is a truth value, as a test -/
def tOfB (a : DE) : DT := fun r S => (a r S).bind fun x S => match x with
  | .bl b => .ok b S
  | _ => .bad
def tNotD (a : DT) : DT := fun r S => (a r S).bind fun x S => .ok (!x) S
def tAndD (a b : DT) : DT := fun r S => (a r S).bind fun x S => if x then b r S else .ok false S
def tOrD (a b : DT) : DT := fun r S => (a r S).bind fun x S => if x then .ok true S else b r S
def eAnd (a b : DE) : DE := fun r S => (a r S).bind fun x S => match x with
  | .bl c => if c then b r S else .ok (.bl false) S
  | _ => .bad
def eOr (a b : DE) : DE := fun r S => (a r S).bind fun x S => match x with
  | .bl c => if c then .ok (.bl true) S else b r S
  | _ => .bad
def eNot (a : DE) : DE := fun r S => (a r S).bind fun x S => match x with
  | .bl c => .ok (.bl (!c)) S
  | _ => .bad
def eIf (t : DT) (a b : DE) : DE := fun r S => (t r S).bind fun x S => if x then a r S else b r S
def aNil : DA := fun _ S => .ok [] S
def aCons (a : DE) (b : DA) : DA := fun r S => (a r S).bind fun x S => (b r S).bind fun xs S => .ok (x :: xs) S
def eTup (a : DA) : DE := fun r S => (a r S).bind fun xs S => if xs.length ≤ sizeLine then .ok (.tup xs) S else .bad
def eLst (a : DA) : DE := fun r S => (a r S).bind fun xs S => if xs.length ≤ sizeLine then .ok (.lst xs) S else .bad
/-- a new list: one that stays, one that changes -/
def nLst (a : DA) : DA := fun r S => (a r S).bind fun xs S => if xs.length ≤ sizeLine then .ok xs S else .bad
def eFrz (a : DA) : DE := fun r S => (a r S).bind fun xs S => .ok (.lst xs) S
def eNew (a : DA) : DE := fun r S => (a r S).bind fun xs S => .ok (.ref S.length) (S ++ [.lst xs])
/-- a call of a def -/
def eCall (m : Fn) (a : DA) : DE := fun r S => (a r S).bind fun xs S => m xs S
/-! ### what is walked, measured, asked: lists and tuples as they stand -/
inductive Src where
  | cst (tup : Bool) (xs : List D) | own (i : Nat) | loc (l : Nat)
abbrev DL := Rho → Store → Rs Src
def Src.get (c : Src) (r : Rho) (S : Store) : Option (List D) := match c with
  | .cst _ xs => some xs
  | .own i => (match r[i]? with
    | some (.own xs) => some xs
    | _ => none)
  | .loc l => (match S[l]? with
    | some (.lst xs) => some xs
    | _ => none)
def srcOf (S : Store) (d : D) : Option Src := match d with
  | .tup xs => some (.cst true xs)
  | .lst xs => some (.cst false xs)
  | .ref l => (match S[l]? with
    | some (.lst _) => some (.loc l)
    | _ => none)
  | _ => none
def Src.isT : Src → Bool
  | .cst t _ => t
  | _ => false
def lE (a : DE) : DL := fun r S => (a r S).bind fun x S => Rs.ofO (srcOf S x) S
def lOwn (i : Nat) : DL := fun r S => match r[i]? with
  | some (.own _) => .ok (.own i) S
  | _ => .bad
/-- a built-in of one list or tuple -/
def eL1 (f : Bool → List D → Option D) (a : DL) : DE := fun r S => (a r S).bind fun c S => Rs.ofO ((c.get r S).bind (f c.isT)) S
def eLen : DL → DE := eL1 fun _ xs => some (.int xs.length)
def eTupOf : DL → DE := eL1 fun _ xs => some (.tup xs)
def eLstOf : DL → DE := eL1 fun _ xs => some (.lst xs)
/-- new lists from others -/
def nLstOf (a : DL) : DA := fun r S => (a r S).bind fun c S => Rs.ofO (c.get r S) S
/-- == of instances without an __eq__: the very same -/
def cmpSame (c : Str) (S : Store) (x y : D) : Option Bool := match x, y with
  | .ref l, .ref k => (match S[l]?, S[k]? with
    | some (.ins a _), some (.ins b _) => if a = c ∧ b = c then some (decide (l = k)) else none
    | _, _ => none)
  | _, _ => none
/-- xs.count(x), xs.index(x) -/
def eCount (b : DL) (a : DE) : DE := fun r S => (b r S).bind fun c S => (Rs.ofO (if c.isT then none else c.get r S) S).bind fun _ S => (a r S).bind fun x S => (Rs.ofO (c.get r S) S).bind fun xs S =>
  if D.pl 63 x && D.pls 63 xs then .ok (.int (xs.countP fun z => eqD z x : Nat)) S else .bad
def eIndex (b : DL) (a : DE) : DE := fun r S => (b r S).bind fun c S => (Rs.ofO (if c.isT then none else c.get r S) S).bind fun _ S => (a r S).bind fun x S => (Rs.ofO (c.get r S) S).bind fun xs S =>
  if D.pl 63 x && D.pls 63 xs && xs.any (fun z => eqD z x) then .ok (.int (xs.findIdx fun z => eqD z x : Nat)) S else .bad
def eLenS (a : DE) : DE := fun r S => (a r S).bind fun x S => match x with
  | .str z => if z.length ≤ sizeLine then .ok (.int z.length) S else .bad
  | _ => .bad
/-- the place i of n, from the end below 0 -/
def place (n : Nat) (i : Int) : Option Nat := if 0 ≤ i then (if i < n then some i.toNat else none) else if -(n : Int) ≤ i then some (i + n).toNat else none
def atD (xs : List D) (i : Int) : Option D := (place xs.length i).bind fun j => xs[j]?
def eIx (a : DL) (b : DE) : DE := fun r S => (a r S).bind fun c S => (b r S).bind fun y S => match y with
  | .int i => Rs.ofO ((c.get r S).bind fun xs => atD xs i) S
  | _ => .bad
/-- o.append(e) of a numbered list -/
def eAppR (o a : DE) : DE := fun r S => (o r S).bind fun p S => match p with
  | .ref l => (match S[l]? with
    | some (.lst _) => (a r S).bind fun x S => (match S[l]? with
      | some (.lst xs) => if xs.length < sizeLine then .ok .non (S.set l (.lst (xs ++ [x]))) else .bad
      | _ => .bad)
    | _ => .bad)
  | _ => .bad
/-- o.pop(k) of a numbered list -/
def ePopR (o k : DE) : DE := fun r S => (o r S).bind fun p S => match p with
  | .ref l => (match S[l]? with
    | some (.lst _) => (k r S).bind fun n S => (match n, S[l]? with
      | .int j, some (.lst xs) => (match place xs.length j with
        | some m => (match xs[m]? with
          | some y => .ok y (S.set l (.lst (xs.eraseIdx m)))
          | none => .bad)
        | none => .bad)
      | _, _ => .bad)
    | _ => .bad)
  | _ => .bad
def ePopR0 (o : DE) : DE := fun r S => (o r S).bind fun p S => match p with
  | .ref l => (match S[l]? with
    | some (.lst xs) => (match xs[xs.length - 1]? with
      | some y => .ok y (S.set l (.lst xs.dropLast))
      | none => .bad)
    | _ => .bad)
  | _ => .bad
/-- bounds of a slice -/
def cutAt (n d : Nat) : Option Int → Nat
  | none => d
  | some i => if i < 0 then (i + n).toNat else min i.toNat n
def cutD (xs : List D) (lo hi : Option Int) : List D := (xs.drop (cutAt xs.length 0 lo)).take (cutAt xs.length xs.length hi - cutAt xs.length 0 lo)
abbrev DO := Rho → Store → Rs (Option Int)
def oNone : DO := fun _ S => .ok none S
def oSome (a : DE) : DO := fun r S => (a r S).bind fun x S => match x with
  | .int i => .ok (some i) S
  | _ => .bad
def eSlice (a : DL) (lo hi : DO) : DE := fun r S => (a r S).bind fun c S => (lo r S).bind fun l S => (hi r S).bind fun u S => (Rs.ofO (c.get r S) S).bind fun xs S =>
  .ok (if c.isT then .tup (cutD xs l u) else .lst (cutD xs l u)) S
def boolsOf : List D → Option (List Bool)
  | [] => some []
  | .bl b :: r => (boolsOf r).map (b :: ·)
  | _ => none
def intsOf : List D → Option (List Int)
  | [] => some []
  | .int i :: r => (intsOf r).map (i :: ·)
  | _ => none
def eAll : DL → DE := eL1 fun t xs => if t then none else (boolsOf xs).map fun bs => .bl (bs.all id)
def eAny : DL → DE := eL1 fun t xs => if t then none else (boolsOf xs).map fun bs => .bl (bs.any id)
def eSum : DL → DE := eL1 fun t xs => if t then none else (intsOf xs).map fun ns => .int ns.sum
/-- Python's sorted of data that are alike -/
def sortD (xs : List D) : List D := xs.mergeSort (PySem.W.dataLe false D.P)
def aliker (xs : List D) : Bool := xs.all fun x => xs.all fun y => PySem.W.alike x.P y.P
def sortOk (xs : List D) : Bool := xs.all (D.pl 64) && aliker xs && (xs.all fun x => match x with
  | .tup (_ :: _) => true
  | .int _ => true
  | .str _ => true
  | _ => false) && ((xs.all fun x => match x with
  | .tup _ => true
  | _ => false) || (xs.all fun x => match x with
  | .tup _ => false
  | _ => true))
def nSorted (a : DL) : DA := fun r S => (a r S).bind fun c S => (Rs.ofO (c.get r S) S).bind fun xs S => if !c.isT && sortOk xs then .ok (sortD xs) S else .bad
def eSorted : DL → DE := eL1 fun t xs => if !t && sortOk xs then some (.lst (sortD xs)) else none
/-- x in a list or tuple -/
def eIn (neg : Bool) (a : DE) (b : DL) : DE := fun r S => (a r S).bind fun x S => (b r S).bind fun c S => (Rs.ofO (c.get r S) S).bind fun xs S =>
  if D.pl 63 x && D.pls 63 xs then .ok (.bl (if neg then !xs.any (fun z => eqD z x) else xs.any (fun z => eqD z x))) S else .bad
def eAbs (a : DE) : DE := fun r S => (a r S).bind fun x S => match x with
  | .int i => .ok (.int (if i < 0 then -i else i)) S
  | _ => .bad
def eInt (a : DE) : DE := fun r S => (a r S).bind fun x S => match x with
  | .int i => .ok (.int i) S
  | .bl b => .ok (.int (if b then 1 else 0)) S
  | _ => .bad
def eMin2 (a b : DE) : DE := fun r S => (a r S).bind fun x S => (b r S).bind fun y S => match x, y with
  | .int i, .int j => .ok (.int (if j < i then j else i)) S
  | _, _ => .bad
def eMax2 (a b : DE) : DE := fun r S => (a r S).bind fun x S => (b r S).bind fun y S => match x, y with
  | .int i, .int j => .ok (.int (if j > i then j else i)) S
  | _, _ => .bad
/-- the built-in classes of a value -/
def tyName (S : Store) (d : D) : Option String := match d with
  | .non => some "NoneType"
  | .bl _ => some "bool"
  | .int _ => some "int"
  | .str _ => some "str"
  | .tup _ => some "tuple"
  | .lst _ => some "list"
  | .ref l => (match S[l]? with
    | some (.lst _) => some "list"
    | some (.dct _ _) => some "dict"
    | _ => none)
  | .cls _ => none
  | .fn _ => none
def isTy (t : String) (n : String) : Bool := decide (t = n) || (decide (t = "bool") && decide (n = "int"))
def eIsTy (n : String) (a : DE) : DE := fun r S => (a r S).bind fun x S => match tyName S x with
  | some t => .ok (.bl (isTy t n)) S
  | none => .bad
/-- in order, each once -/
def insS (x : Int) : List Int → List Int
  | [] => [x]
  | y :: l => if x < y then x :: y :: l else if x = y then y :: l else y :: insS x l
def sortSet : List Int → List Int
  | [] => []
  | x :: l => insS x (sortSet l)
/-- sorted(set(xs)), whole numbers, fewer than 64 -/
def nSortSet (a : DL) : DA := fun r S => (a r S).bind fun c S => Rs.ofO (if c.isT then none else (c.get r S).bind fun xs => (intsOf xs).bind fun ns => if ns.length < 64 then some ((sortSet ns).map D.int) else none) S
/-! ### objects -/
def eFld (cs : List Str) (f : Str) (a : DE) : DE := fun r S => (a r S).bind fun x S => match x with
  | .ref l => (match S[l]? with
    | some (.ins c fs) => if c ∈ cs then Rs.ofO (fs.lookup f) S else .bad
    | _ => .bad)
  | _ => .bad
def eMeth (c m : Str) (g : Fn) (o : DE) (a : DA) : DE := fun r S => (o r S).bind fun x S => match x with
  | .ref l => (match S[l]? with
    | some (.ins k fs) => if k = c ∧ fs.lookup m = none then (a r S).bind fun xs S => g (x :: xs) S else .bad
    | _ => .bad)
  | _ => .bad
/-- a new instance -/
def eMake (c : Str) (g : Fn) (a : DA) : DE := fun r S => (a r S).bind fun xs S => (g (.ref S.length :: xs) (S ++ [.ins c []])).bind fun v S2 => match v with
  | .non => .ok (.ref S.length) S2
  | _ => .bad
def putFD (f : Str) (v : D) : List (Str × D) → List (Str × D)
  | [] => [(f, v)]
  | (g, x) :: r => if g = f then (g, v) :: r else (g, x) :: putFD f v r
/-! ### comprehensions -/
abbrev DG := D → Rho → Store → Option Rho
def gNameD (i : Nat) : DG := fun v r _ => if i < r.length then some (r.set i (.val v)) else none
def gsNil : List D → Rho → Store → Option Rho := fun vs r _ => match vs with
  | [] => some r
  | _ => none
def gsCons (g : DG) (h : List D → Rho → Store → Option Rho) : List D → Rho → Store → Option Rho := fun vs r S => match vs with
  | v :: vs => (g v r S).bind fun r' => h vs r' S
  | [] => none
def gTupD (n : Nat) (h : List D → Rho → Store → Option Rho) : DG := fun v r S => match v with
  | .tup xs => if xs.length = n then h xs r S else none
  | _ => none
def wipeD (r : Rho) : List Nat → Rho
  | [] => r
  | v :: vs => (wipeD r vs).set v .un
def tYesD : DT := fun _ S => .ok true S
/-- no error leaves a comprehension -/
def noX {a : Type} (x : Rs a) : Rs a := match x with
  | .exc _ _ _ => .bad
  | y => y
@[simp] theorem noX_ok {a : Type} (v : a) (s : Store) : noX (.ok v s) = .ok v s := nr rfl
@[simp] theorem noX_bad {a : Type} : noX (.bad : Rs a) = .bad := nr rfl
@[simp] theorem noX_exc {a : Type} (c : Str) (fs : List (Str × D)) (s : Store) : noX (.exc c fs s : Rs a) = .bad := nr rfl
/-- what is walked: its items, and what must stay as it is while it is walked -/
structure Wk where
  xs : List D
  ok : Store → Prop
abbrev DI := Rho → Store → Rs Wk
open scoped Classical in
noncomputable def lcGo (ok : Store → Prop) (g : DG) (t : DT) (e : DE) (r : Rho) : List D → Store → Rs (List D)
  | [], S => if ok S then .ok [] S else .bad
  | x :: xs, S => if ok S then (match g x r S with
    | none => .bad
    | some r' => (noX (t r' S)).bind fun b S => if b then (noX (e r' S)).bind fun y S => (lcGo ok g t e r xs S).bind fun ys S => .ok (y :: ys) S else lcGo ok g t e r xs S) else .bad
noncomputable def nLc (its : DI) (g : DG) (t : DT) (e : DE) (vs : List Nat) : DA := fun r S => (its r S).bind fun w S => lcGo w.ok g t e (wipeD r vs) w.xs S
/-! ### what a loop or a comprehension walks, as lists of items -/
def rangeD (lo hi : Int) : List D := (List.range (hi - lo).toNat).map fun (k : Nat) => D.int (lo + (k : Int))
@[irreducible] def rOk (i : Int) : Bool := decide (-(2 ^ 62) ≤ i) && decide (i < 2 ^ 62)
def wkS (xs : List D) : Wk := ⟨xs, fun _ => True⟩
def iRange1 (a : DE) : DI := fun r S => (a r S).bind fun x S => match x with
  | .int j => if rOk j && decide (j ≤ sizeLine) then .ok (wkS (rangeD 0 j)) S else .bad
  | _ => .bad
def iRange2 (a b : DE) : DI := fun r S => (a r S).bind fun x S => (b r S).bind fun y S => match x, y with
  | .int i, .int j => if rOk i && rOk j && decide (j - i ≤ sizeLine) then .ok (wkS (rangeD i j)) S else .bad
  | _, _ => .bad
/-- a list or a tuple, walked -/
def wkOf (S : Store) (d : D) : Option Wk := match d with
  | .tup xs => some (wkS xs)
  | .lst xs => some (wkS xs)
  | .ref l => (match S[l]? with
    | some (.lst xs) => some ⟨xs, fun S => S[l]? = some (.lst xs)⟩
    | _ => none)
  | _ => none
def wkL (S : Store) (d : D) : Option Wk := match d with
  | .tup _ => none
  | d => wkOf S d
def iSeqD (a : DE) : DI := fun r S => (a r S).bind fun x S => Rs.ofO (wkOf S x) S
def enumD (k : Nat) : List D → List D
  | [] => []
  | x :: xs => .tup [.int k, x] :: enumD (k + 1) xs
def iEnumD (a : DE) : DI := fun r S => (a r S).bind fun x S => match wkL S x with
  | some w => if w.xs.length ≤ sizeLine then .ok ⟨enumD 0 w.xs, w.ok⟩ S else .bad
  | none => .bad
/-- enumerate of a list or a tuple -/
def iEnumAD (a : DE) : DI := fun r S => (a r S).bind fun x S => Rs.ofO ((wkOf S x).map fun w => ⟨enumD 0 w.xs, w.ok⟩) S
def zipD : List D → List D → List D
  | x :: xs, y :: ys => .tup [x, y] :: zipD xs ys
  | _, _ => []
def wkZ (S : Store) (x y : D) : Option Wk := match x, y with
  | .tup xs, .tup ys => some (wkS (zipD xs ys))
  | x, y => (wkL S x).bind fun w => (wkL S y).map fun v => ⟨zipD w.xs v.xs, fun S => w.ok S ∧ v.ok S⟩
def iZipD (a b : DE) : DI := fun r S => (a r S).bind fun x S => (b r S).bind fun y S => match wkZ S x y with
  | some w => if w.xs.length ≤ sizeLine then .ok w S else .bad
  | none => .bad
/-! ### statements -/
def sNext : DS := fun r S => .next r S
def sSeq (a b : DS) : DS := fun r S => (a r S).bind b
def sSet (i : Nat) (a : DE) : DS := fun r S => (a r S).toS r fun x S => if i < r.length then .next (r.set i (.val x)) S else .bad
/-- name = a list of its own -/
def sSetOwn (i : Nat) (a : DA) : DS := fun r S => (a r S).toS r fun xs S => if i < r.length then .next (r.set i (.own xs)) S else .bad
def sAsg (a : DE) (g : DG) : DS := fun r S => (a r S).toS r fun x S => match g x r S with
  | some r' => .next r' S
  | none => .bad
/-- a, b = x, y -/
def sPar (i j : Nat) (a b : DE) : DS := fun r S => (a r S).toS r fun x S => (b r S).toS r fun y S => if i < r.length ∧ j < r.length then .next ((r.set i (.val x)).set j (.val y)) S else .bad
def sDrop (a : DE) : DS := fun r S => (a r S).toS r fun _ S => .next r S
def sRet (a : DE) : DS := fun r S => (a r S).toS r fun x S => .ret x r S
/-- return of a list of its own: it changes no more -/
def noLam (r : Rho) : Bool := r.all fun
  | .lam => false
  | _ => true
def sRetOwn (i : Nat) : DS := fun r S => match r[i]? with
  | some (.own xs) => if noLam r then .ret (.lst xs) (r.set i .un) S else .bad
  | _ => .bad
/-- from here on the list changes no more -/
def sFrz (i : Nat) : DS := fun r S => match r[i]? with
  | some (.own xs) => if noLam r then .next (r.set i (.val (.lst xs))) S else .bad
  | _ => .bad
def sRetN : DS := fun r S => .ret .non r S
def sIf (t : DT) (a b : DS) : DS := fun r S => (t r S).toS r fun x S => if x then a r S else b r S
def sBrk : DS := fun r S => .brk r S
def sCnt : DS := fun r S => .cont r S
def sBad : DS := fun _ _ => .bad
/-- xs.append(e), xs a list of its own -/
def sApp (i : Nat) (a : DE) : DS := fun r S => match r[i]? with
  | some (.own _) => (a r S).toS r fun x S => match r[i]? with
    | some (.own xs) => if xs.length < sizeLine then .next (r.set i (.own (xs ++ [x]))) S else .bad
    | _ => .bad
  | _ => .bad
/-- o[k] = e, o an object that is a list -/
def sPutR (o k : DE) (a : DE) : DS := fun r S => (a r S).toS r fun x S => (o r S).toS r fun p S => (k r S).toS r fun n S => match p, n with
  | .ref l, .int j => (match S[l]? with
    | some (.lst xs) => (match place xs.length j with
      | some m => .next r (S.set l (.lst (xs.set m x)))
      | none => .bad)
    | _ => .bad)
  | _, _ => .bad
/-- xs[k] = e, xs a list of its own -/
def sPut (i : Nat) (k : DE) (a : DE) : DS := fun r S => (a r S).toS r fun x S => match r[i]? with
  | some (.own _) => (k r S).toS r fun n S => (match n, r[i]? with
    | .int j, some (.own xs) => (match place xs.length j with
      | some m => .next (r.set i (.own (xs.set m x))) S
      | none => .bad)
    | _, _ => .bad)
  | _ => .bad
/-- o.f = e -/
def sFldD (cs : List Str) (f : Str) (o : DE) (a : DE) : DS := fun r S => (a r S).toS r fun x S => (o r S).toS r fun p S => match p with
  | .ref l => (match S[l]? with
    | some (.ins c fs) => if c ∈ cs ∧ fs.length < 1000 then .next r (S.set l (.ins c (putFD f x fs))) else .bad
    | _ => .bad)
  | _ => .bad
def sAugI (i : Nat) (f : Int → Int → Int) (a : DE) : DS := fun r S => match r[i]? with
  | some (.val (.int x)) => (a r S).toS r fun y S => (match y with
    | .int j => .next (r.set i (.val (.int (f x j)))) S
    | _ => .bad)
  | _ => .bad
open scoped Classical in
/-- the turns of a loop -/
noncomputable def forGo (ok : Store → Prop) (g : DG) (b : DS) : List D → Rho → Store → Sr
  | [], r, S => if ok S then .next r S else .bad
  | x :: xs, r, S => if ok S then (match g x r S with
    | none => .bad
    | some r' => (match b r' S with
      | .next r2 S2 => forGo ok g b xs r2 S2
      | .cont r2 S2 => forGo ok g b xs r2 S2
      | .brk r2 S2 => .next r2 S2
      | .ret d r2 S2 => .ret d r2 S2
      | .exc c fs r2 S2 => .exc c fs r2 S2
      | .bad => .bad)) else .bad
noncomputable def sFor (its : DI) (g : DG) (b : DS) : DS := fun r S => (its r S).toS r fun w S => forGo w.ok g b w.xs r S
def whileGo (t : DT) (b : DS) : Nat → Rho → Store → Sr
  | 0, _, _ => .bad
  | n + 1, r, S => (t r S).toS r fun c S => if c then (match b r S with
      | .next r2 S2 => whileGo t b n r2 S2
      | .cont r2 S2 => whileGo t b n r2 S2
      | .brk r2 S2 => .next r2 S2
      | .ret d r2 S2 => .ret d r2 S2
      | .exc c fs r2 S2 => .exc c fs r2 S2
      | .bad => .bad) else .next r S
def sWhile (n : Nat) (t : DT) (b : DS) : DS := whileGo t b n
/-! ### a def -/
def fnD (np n : Nat) (b : DS) : Fn := fun ds S => if ds.length = np then (match b (ds.map Sl.val ++ List.replicate (n - np) Sl.un) S with
  | .next _ S => .ok .non S
  | .ret d _ S => .ok d S
  | .exc c fs _ S => .exc c fs S
  | _ => .bad) else .bad
end Dn

end
section
set_option Elab.async false
set_option linter.all false
set_option maxRecDepth 100000
set_option maxHeartbeats 4000000
/-! How the values told whole stand in the layer's heap. -/
namespace L2
open PySem PySem.Spec PyProof.Rows
section
variable {X : Cx} {e : Expr}
theorem PE.dimp {t t' : TE} (h : PE X e t) (k : ∀ s H Q, t' s H Q → t s H Q) : PE X e t' := ⟨fun pins st s H Q I q => h.run pins st s H Q I (k s H Q q)⟩
theorem PT.dimp {t t' : TT} (h : PT X e t) (k : ∀ s H Q, t' s H Q → t s H Q) : PT X e t' := ⟨fun pins st s H Q I q => h.run pins st s H Q I (k s H Q q)⟩
theorem PA.dimp {es : List Expr} {t t' : TA} (h : PA X es t) (k : ∀ s H Q, t' s H Q → t s H Q) : PA X es t' := ⟨fun pos pins st s H Q I q => h.run pos pins st s H Q I (k s H Q q)⟩
theorem PS.dimp {st : Stmt} {t t' : TS} (h : PS X st t) (k : ∀ D s H, t' D s H → t D s H) : PS X st t' := ⟨fun pins z s H D I q => h.run pins z s H D I (k D s H q)⟩
theorem PSs.dimp {st : List Stmt} {t t' : TS} (h : PSs X st t) (k : ∀ D s H, t' D s H → t D s H) : PSs X st t' := ⟨fun pins z s H D I q => h.run pins z s H D I (k D s H q)⟩
end
end L2
namespace Dn
open PySem PySem.Spec PyProof.Rows L2
/-- where the changing objects, the tuples, the unchanging lists stand -/
structure Mp where
  loc : Nat → Option Addr
  tup : Addr → Option (List V)
  lst : Addr → Option (List V)
/-- the text's own part; lam: the lambda in hand, the state in which the def got it -/
structure Gx where
  K : PySem.W.Frag
  mg : Str → Option Value
  T : List (Addr × Str)
  pn : List (Addr × Obj)
  lam : Option (Addr × Mp × Hp)
abbrev noHp : Hp := fun _ => none
mutual
def RelD (G : Gx) (M : Mp) : D → V → Prop
  | .non, v => v = .non
  | .bl b, v => v = .bl b
  | .int i, v => v = .int i
  | .str x, v => v = .str x
  | .tup ds, v => ∃ a vs, v = .ref a ∧ M.tup a = some vs ∧ RelDs G M ds vs
  | .lst ds, v => ∃ a vs, v = .ref a ∧ (M.lst a = some vs ∨ SqL G.K noHp a vs) ∧ RelDs G M ds vs
  | .ref l, v => ∃ a, v = .ref a ∧ M.loc l = some a
  | .cls x, v => ∃ a, v = .ref a ∧ G.mg x = some (.ref a)
  | .fn x, v => ∃ a, v = .ref a ∧ G.mg x = some (.ref a)
def RelDs (G : Gx) (M : Mp) : List D → List V → Prop
  | [], vs => vs = []
  | d :: ds, vs => ∃ v r, vs = v :: r ∧ RelD G M d v ∧ RelDs G M ds r
end
def RelFs (G : Gx) (M : Mp) : List (Str × D) → List (Str × V) → Prop
  | [], vs => vs = []
  | (f, d) :: ds, vs => ∃ v r, vs = (f, v) :: r ∧ RelD G M d v ∧ RelFs G M ds r
/-- a key of a dict: a number or a text; a tuple of these -/
def keyOf : D → Option Key
  | .int i => some (.inl i)
  | .str x => some (.inr x)
  | _ => none
def keysOf : D → Option (List Key)
  | .tup ds => ds.mapM keyOf
  | _ => none
/-- a dict's entries -/
def RelKV {κ : Type} (G : Gx) (M : Mp) (f : D → Option κ) : List (D × D) → List (κ × V) → Prop
  | [], vs => vs = []
  | (k, d) :: r, vs => ∃ c v s, vs = (c, v) :: s ∧ f k = some c ∧ RelD G M d v ∧ RelKV G M f r s
theorem RelKV.map {κ : Type} {G G' : Gx} {M M' : Mp} {f : D → Option κ} (h : ∀ d v, RelD G M d v → RelD G' M' d v) : ∀ {kvs : List (D × D)} {vs : List (κ × V)}, RelKV G M f kvs vs → RelKV G' M' f kvs vs
  | [], _, r => r
  | (k, d) :: kvs, _, r => by
    obtain ⟨c, v, s, rfl, h1, h2, h3⟩ := r
    exact ⟨c, v, s, rfl, h1, h d v h2, RelKV.map h h3⟩
/-- a dict as it stands -/
def DctR (G : Gx) (M : Mp) (t : Bool) (kvs : List (D × D)) (o : Option HO) : Prop := (t = false ∧ ∃ vs, o = some (.dK vs) ∧ RelKV G M keyOf kvs vs) ∨ (t = true ∧ ∃ vs, o = some (.dT vs) ∧ RelKV G M keysOf kvs vs)
theorem DctR.map {G G' : Gx} {M M' : Mp} {t : Bool} {kvs : List (D × D)} {o : Option HO} (h : ∀ d v, RelD G M d v → RelD G' M' d v) (r : DctR G M t kvs o) : DctR G' M' t kvs o := by
  rcases r with ⟨e, vs, h1, h2⟩ | ⟨e, vs, h1, h2⟩
  · exact .inl ⟨e, vs, h1, h2.map h⟩
  · exact .inr ⟨e, vs, h1, h2.map h⟩
theorem DctR.not {G : Gx} {M : Mp} {t : Bool} {kvs : List (D × D)} (r : DctR G M t kvs none) : False := by
  rcases r with ⟨_, _, h, _⟩ | ⟨_, _, h, _⟩ <;> cases h
def ObjR (G : Gx) (M : Mp) : SO → Option HO → Prop
  | .lst ds, o => ∃ vs, o = some (.lst vs) ∧ RelDs G M ds vs
  | .ins c fs, o => ∃ C dx vfs, o = some (.ins C dx vfs) ∧ G.mg c = some (.ref C) ∧ RelFs G M fs vfs
  | .dct t kvs, o => DctR G M t kvs o
structure RelH (G : Gx) (M : Mp) (S : Store) (H : Hp) : Prop where
  obj : ∀ (l : Nat) (o : SO), S[l]? = some o → ∃ a, M.loc l = some a ∧ ObjR G M o (H a)
  dom : ∀ l a, M.loc l = some a → l < S.length
  inj : ∀ l k a, M.loc l = some a → M.loc k = some a → l = k
  tup : ∀ a vs, M.tup a = some vs → H a = some (.tup vs)
  lst : ∀ a vs, M.lst a = some vs → Rd H a (.lst vs)
  apt : ∀ a vs l, M.lst a = some vs → M.loc l ≠ some a
  tabs : LamX.Tabs G.T H
theorem RelH.sq {G : Gx} {M : Mp} {S : Store} {H : Hp} {a : Addr} {vs : List V} (rh : RelH G M S H) (h : M.lst a = some vs ∨ SqL G.K noHp a vs) : SqL G.K H a vs := by
  rcases h with h | h
  · exact .inl (rh.lst a vs h)
  · rcases h with z | z
    · rcases z with z | ⟨_, z⟩ <;> cases z
    · exact .inr z
/-- what may be there further on -/
structure Ext (M : Mp) (H : Hp) (M' : Mp) (H' : Hp) : Prop where
  loc : ∀ l a, M.loc l = some a → M'.loc l = some a
  tup : ∀ a vs, M.tup a = some vs → M'.tup a = some vs
  lst : ∀ a vs, M.lst a = some vs → M'.lst a = some vs
  new : ∀ l a, M'.loc l = some a → M.loc l = some a ∨ H a = none
  newl : ∀ a vs, M'.lst a = some vs → M.lst a = some vs ∨ H a = none
  keep : ∀ a o, H a = some o → (∀ l, M.loc l ≠ some a) → (∀ ps, o ≠ .tbl ps) → H' a = some o
  there : ∀ a o, H a = some o → ∃ o', H' a = some o'
theorem Ext.refl {M : Mp} {H : Hp} : Ext M H M H := ⟨fun _ _ h => h, fun _ _ h => h, fun _ _ h => h, fun _ _ h => .inl h, fun _ _ h => .inl h, fun _ _ h _ _ => h, fun _ o h => ⟨o, h⟩⟩
theorem Ext.trans {M M1 M2 : Mp} {H H1 H2 : Hp} (a : Ext M H M1 H1) (b : Ext M1 H1 M2 H2) : Ext M H M2 H2 where
  loc := fun l x h => b.loc l x (a.loc l x h)
  tup := fun l x h => b.tup l x (a.tup l x h)
  lst := fun l x h => b.lst l x (a.lst l x h)
  new := fun l x h => by
    rcases b.new l x h with q | q
    · exact a.new l x q
    · refine .inr ?_
      cases e : H x with
      | none => rfl
      | some o =>
        obtain ⟨o', e'⟩ := a.there x o e
        rw [q] at e'; cases e'
  newl := fun l x h => by
    rcases b.newl l x h with q | q
    · exact a.newl l x q
    · refine .inr ?_
      cases e : H l with
      | none => rfl
      | some o =>
        obtain ⟨o', e'⟩ := a.there l o e
        rw [q] at e'; cases e'
  keep := fun x o h n t => b.keep x o (a.keep x o h n t) (fun l q => by
    rcases a.new l x q with z | z
    · exact n l z
    · rw [h] at z; cases z) t
  there := fun x o h => by
    obtain ⟨o', h'⟩ := a.there x o h
    exact b.there x o' h'
section
variable {G : Gx} {M M' : Mp} {H H' : Hp}
mutual
theorem RelD.mono (e : Ext M H M' H') : ∀ {d : D} {v : V}, RelD G M d v → RelD G M' d v
  | .non, _, h => h
  | .bl _, _, h => h
  | .int _, _, h => h
  | .str _, _, h => h
  | .tup ds, _, h => by
    obtain ⟨a, vs, rfl, h1, h2⟩ := h
    exact ⟨a, vs, rfl, e.tup a vs h1, RelDs.mono e h2⟩
  | .lst ds, _, h => by
    obtain ⟨a, vs, rfl, h1, h2⟩ := h
    exact ⟨a, vs, rfl, h1.imp (e.lst a vs) id, RelDs.mono e h2⟩
  | .ref l, _, h => by
    obtain ⟨a, rfl, h1⟩ := h
    exact ⟨a, rfl, e.loc l a h1⟩
  | .cls _, _, h => h
  | .fn _, _, h => h
theorem RelDs.mono (e : Ext M H M' H') : ∀ {ds : List D} {vs : List V}, RelDs G M ds vs → RelDs G M' ds vs
  | [], _, h => h
  | d :: ds, _, h => by
    obtain ⟨v, r, rfl, h1, h2⟩ := h
    exact ⟨v, r, rfl, RelD.mono e h1, RelDs.mono e h2⟩
end
theorem RelFs.mono (e : Ext M H M' H') : ∀ {ds : List (Str × D)} {vs : List (Str × V)}, RelFs G M ds vs → RelFs G M' ds vs
  | [], _, h => h
  | (f, d) :: ds, _, h => by
    obtain ⟨v, r, rfl, h1, h2⟩ := h
    exact ⟨v, r, rfl, h1.mono e, RelFs.mono e h2⟩
theorem ObjR.mono (e : Ext M H M' H') {o : SO} {x : Option HO} (h : ObjR G M o x) : ObjR G M' o x := by
  cases o with
  | lst ds => obtain ⟨vs, h1, h2⟩ := h; exact ⟨vs, h1, h2.mono e⟩
  | ins c fs => obtain ⟨C, dx, vfs, h1, h2, h3⟩ := h; exact ⟨C, dx, vfs, h1, h2, h3.mono e⟩
  | dct _ _ => exact DctR.map (fun _ _ q => q.mono e) h
theorem RelDs.len : ∀ {ds : List D} {vs : List V}, RelDs G M ds vs → ds.length = vs.length
  | [], _, h => by cases (show _ = [] from h); rfl
  | d :: ds, _, h => by
    obtain ⟨v, r, rfl, h1, h2⟩ := h
    simp only [List.length_cons]
    rw [RelDs.len h2]
theorem RelDs.cons {d : D} {ds : List D} {v : V} {vs : List V} (h : RelD G M d v) (t : RelDs G M ds vs) : RelDs G M (d :: ds) (v :: vs) := ⟨v, vs, rfl, h, t⟩
theorem RelDs.nil : RelDs G M [] [] := rfl
theorem RelDs.append : ∀ {ds es : List D} {vs ws : List V}, RelDs G M ds vs → RelDs G M es ws → RelDs G M (ds ++ es) (vs ++ ws)
  | [], _, _, _, h, k => by cases (show _ = [] from h); exact k
  | d :: ds, _, _, _, h, k => by
    obtain ⟨v, r, rfl, h1, h2⟩ := h
    exact ⟨v, r ++ _, rfl, h1, RelDs.append h2 k⟩
theorem RelDs.get : ∀ {ds : List D} {vs : List V} {i : Nat} {d : D}, RelDs G M ds vs → ds[i]? = some d → ∃ v, vs[i]? = some v ∧ RelD G M d v
  | [], _, _, _, _, e => by simp at e
  | d :: ds, _, 0, x, h, e => by
    obtain ⟨v, r, rfl, h1, h2⟩ := h
    simp at e; subst e
    exact ⟨v, rfl, h1⟩
  | d :: ds, _, i + 1, x, h, e => by
    obtain ⟨v, r, rfl, h1, h2⟩ := h
    obtain ⟨w, e1, e2⟩ := RelDs.get (i := i) h2 (by simpa using e)
    exact ⟨w, by simpa using e1, e2⟩
theorem RelDs.getV : ∀ {ds : List D} {vs : List V} {i : Nat} {v : V}, RelDs G M ds vs → vs[i]? = some v → ∃ d, ds[i]? = some d ∧ RelD G M d v
  | [], _, _, _, h, e => by cases (show _ = [] from h); simp at e
  | d :: ds, _, 0, x, h, e => by
    obtain ⟨v, r, rfl, h1, h2⟩ := h
    simp at e; subst e
    exact ⟨d, rfl, h1⟩
  | d :: ds, _, i + 1, x, h, e => by
    obtain ⟨v, r, rfl, h1, h2⟩ := h
    obtain ⟨w, e1, e2⟩ := RelDs.getV (i := i) h2 (by simpa using e)
    exact ⟨w, by simpa using e1, e2⟩
theorem RelDs.set : ∀ {ds : List D} {vs : List V} (i : Nat) {d : D} {v : V}, RelDs G M ds vs → RelD G M d v → RelDs G M (ds.set i d) (vs.set i v)
  | [], _, _, _, _, h, _ => by cases (show _ = [] from h); exact RelDs.nil
  | d :: ds, _, 0, x, y, h, k => by
    obtain ⟨v, r, rfl, h1, h2⟩ := h
    exact ⟨y, r, rfl, k, h2⟩
  | d :: ds, _, i + 1, x, y, h, k => by
    obtain ⟨v, r, rfl, h1, h2⟩ := h
    exact ⟨v, r.set i y, rfl, h1, RelDs.set i h2 k⟩
theorem RelDs.drop : ∀ {ds : List D} {vs : List V} (n : Nat), RelDs G M ds vs → RelDs G M (ds.drop n) (vs.drop n)
  | _, _, 0, h => h
  | [], _, n + 1, h => by cases (show _ = [] from h); exact RelDs.nil
  | d :: ds, _, n + 1, h => by
    obtain ⟨v, r, rfl, h1, h2⟩ := h
    exact RelDs.drop n h2
theorem RelDs.take : ∀ {ds : List D} {vs : List V} (n : Nat), RelDs G M ds vs → RelDs G M (ds.take n) (vs.take n)
  | _, _, 0, h => by simp only [List.take_zero]; exact RelDs.nil
  | [], _, n + 1, h => by cases (show _ = [] from h); exact RelDs.nil
  | d :: ds, _, n + 1, h => by
    obtain ⟨v, r, rfl, h1, h2⟩ := h
    exact ⟨v, _, rfl, h1, RelDs.take n h2⟩
theorem RelDs.repl {ds : List D} {vs : List V} (h : RelDs G M ds vs) : ∀ n : Nat, RelDs G M (List.replicate n ds).flatten (List.replicate n vs).flatten
  | 0 => by simp only [List.replicate_zero, List.flatten_nil]; exact RelDs.nil
  | n + 1 => by
    simp only [List.replicate_succ, List.flatten_cons]
    exact h.append (RelDs.repl h n)
theorem RelFs.lookup : ∀ {fs : List (Str × D)} {vs : List (Str × V)} {f : Str} {d : D}, RelFs G M fs vs → fs.lookup f = some d → ∃ v, vs.lookup f = some v ∧ RelD G M d v
  | [], _, _, _, _, e => by simp at e
  | (g, d) :: fs, _, f, x, h, e => by
    obtain ⟨v, r, rfl, h1, h2⟩ := h
    rw [List.lookup_cons] at e ⊢
    cases q : f == g with
    | true => rw [q] at e; cases e; exact ⟨v, rfl, h1⟩
    | false =>
      rw [q] at e
      exact RelFs.lookup h2 e
theorem RelFs.lookupN : ∀ {fs : List (Str × D)} {vs : List (Str × V)} {f : Str}, RelFs G M fs vs → fs.lookup f = none → vs.lookup f = none
  | [], _, _, h, _ => by cases (show _ = [] from h); rfl
  | (g, d) :: fs, _, f, h, e => by
    obtain ⟨v, r, rfl, h1, h2⟩ := h
    rw [List.lookup_cons] at e ⊢
    cases q : f == g with
    | true => rw [q] at e; cases e
    | false =>
      rw [q] at e
      exact RelFs.lookupN h2 e
theorem RelFs.len : ∀ {fs : List (Str × D)} {vs : List (Str × V)}, RelFs G M fs vs → fs.length = vs.length
  | [], _, h => by cases (show _ = [] from h); rfl
  | (_, d) :: ds, _, h => by
    obtain ⟨v, r, rfl, h1, h2⟩ := h
    simp only [List.length_cons]
    rw [RelFs.len h2]
theorem RelFs.put {f : Str} {d : D} {v : V} (k : RelD G M d v) : ∀ {fs : List (Str × D)} {vs : List (Str × V)}, RelFs G M fs vs → RelFs G M (putFD f d fs) (putF f v vs)
  | [], _, h => by cases (show _ = [] from h); exact ⟨v, [], rfl, k, rfl⟩
  | (g, x) :: fs, _, h => by
    obtain ⟨w, r, rfl, h1, h2⟩ := h
    unfold putFD putF
    by_cases q : g = f
    · rw [if_pos q, if_pos q]; exact ⟨v, r, rfl, k, h2⟩
    · rw [if_neg q, if_neg q]; exact ⟨w, _, rfl, h1, RelFs.put k h2⟩
end
/-! ### an exception -/
def ExcR (G : Gx) (M : Mp) (fs : List (Str × D)) (dx : Option Addr) (H : Hp) : Prop := (fs = [] ∧ dx = none) ∨ ∃ d vfs, dx = some d ∧ H d = some (.xd vfs) ∧ RelFs G M fs vfs ∧ ∀ l, M.loc l ≠ some d
theorem ExcR.mono {G : Gx} {M M' : Mp} {H H' : Hp} (e : Ext M H M' H') {fs : List (Str × D)} {dx : Option Addr} (h : ExcR G M fs dx H) : ExcR G M' fs dx H' := by
  rcases h with h | ⟨d, vfs, h1, h2, h3, h4⟩
  · exact .inl h
  · refine .inr ⟨d, vfs, h1, e.keep d _ h2 h4 (fun _ z => by cases z), h3.mono e, fun l q => ?_⟩
    rcases e.new l d q with z | z
    · exact h4 l z
    · rw [h2] at z; cases z
/-- not a code object -/
theorem code_ne {u : HO} {c : Addr} {q : Str} (h : ∀ φ, u ≠ .ext φ) : u ≠ LamX.CodeO c q := fun z => by
  unfold LamX.CodeO at z
  exact h _ z
/-- the tables stay -/
theorem tabs_fresh {T : List (Addr × Str)} {H : Hp} {p : Addr} {o : HO} (t : LamX.Tabs T H) (hp : H p = none) : LamX.Tabs T (upd H p o) := t.ext fun b x h => by rw [upd_ne (fun q => by rw [q, hp] at h; cases h)]; exact h
theorem tabs_set {T : List (Addr × Str)} {H : Hp} {p : Addr} {u o : HO} (t : LamX.Tabs T H) (hp : H p = some u) (n1 : ∀ ps, u ≠ .tbl ps) (n2 : ∀ c q, u ≠ LamX.CodeO c q) : LamX.Tabs T (upd H p o) := fun x hx => by
  obtain ⟨ps, h1, h2, h3⟩ := t x hx
  have e1 : x.1 ≠ p := fun q => by rw [q, hp] at h1; cases h1; exact n1 ps rfl
  refine ⟨ps, by rw [upd_ne e1]; exact h1, h2, fun pos cv hc => ?_⟩
  obtain ⟨c, q1, q2⟩ := h3 pos cv hc
  exact ⟨c, q1, by rw [upd_ne (fun q => by rw [q, hp] at q2; cases q2; exact n2 _ _ rfl)]; exact q2⟩
/-! ### slots -/
def SlotR (G : Gx) (M : Mp) (H : Hp) : Sl → Option V → Prop
  | .un, _ => True
  | .val d, v => ∃ x, v = some x ∧ RelD G M d x
  | .own ds, v => ∃ a vs, v = some (.ref a) ∧ H a = some (.lst vs) ∧ RelDs G M ds vs ∧ (∀ l, M.loc l ≠ some a) ∧ M.lst a = none
  | .ownd _ _, _ => False
  | .exc c fs, v => ∃ a oe C dx, v = some (.ref a) ∧ (a, oe) ∈ G.pn ∧ Zc (.ref C) dx oe ∧ (∃ us, oe.data = .fields us) ∧ G.mg c = some (.ref C) ∧ ExcR G M fs dx H
  | .lam, v => ∃ f M1 H1, G.lam = some (f, M1, H1) ∧ v = some (.ref f) ∧ Ext M1 H1 M H
structure EnvR (G : Gx) (M : Mp) (H : Hp) (r : Rho) (s : L2.St) : Prop where
  len : r.length = s.length
  sl : ∀ (i : Nat) (x : Sl), r[i]? = some x → ∃ v, s[i]? = some v ∧ SlotR G M H x v
  apt : ∀ (i j : Nat) (xs ys : List D) (a : Addr), r[i]? = some (.own xs) → r[j]? = some (.own ys) → s[i]? = some (some (.ref a)) → s[j]? = some (some (.ref a)) → i = j
theorem SlotR.mono {G : Gx} {M M' : Mp} {H H' : Hp} (e : Ext M H M' H') {x : Sl} {v : Option V} (h : SlotR G M H x v) : SlotR G M' H' x v := by
  cases x with
  | un => trivial
  | val d => obtain ⟨x, h1, h2⟩ := h; exact ⟨x, h1, h2.mono e⟩
  | own ds =>
    obtain ⟨a, vs, h1, h2, h3, h4, h5⟩ := h
    refine ⟨a, vs, h1, e.keep a _ h2 h4 (fun _ z => by cases z), h3.mono e, fun l q => ?_, ?_⟩
    · rcases e.new l a q with z | z
      · exact h4 l z
      · rw [h2] at z; cases z
    · cases q : M'.lst a with
      | none => rfl
      | some ws =>
        rcases e.newl a ws q with z | z
        · rw [h5] at z; cases z
        · rw [h2] at z; cases z
  | ownd _ _ => exact h
  | exc c fs =>
    obtain ⟨a, oe, C, dx, h1, h2, h3, h4, h5, h6⟩ := h
    exact ⟨a, oe, C, dx, h1, h2, h3, h4, h5, h6.mono e⟩
  | lam =>
    obtain ⟨f, M1, H1, h1, h2, h3⟩ := h
    exact ⟨f, M1, H1, h1, h2, h3.trans e⟩
theorem EnvR.mono {G : Gx} {M M' : Mp} {H H' : Hp} {r : Rho} {s : L2.St} (e : Ext M H M' H') (h : EnvR G M H r s) : EnvR G M' H' r s :=
  ⟨h.len, fun i x q => let ⟨v, h1, h2⟩ := h.sl i x q; ⟨v, h1, h2.mono e⟩, h.apt⟩
/-! ### ends -/
/-- an end: what is wanted of it; R tells how the answer lies -/
def Post {a b : Type} (G : Gx) (R : Mp → Hp → a → b → Prop) (W : WX) (M : Mp) (H : Hp) (s : L2.St) (r : Rs a) (Q : b → Hp → Prop) : Prop := match r with
  | .ok x S => ∀ M' y H', Ext M H M' H' → RelH G M' S H' → R M' H' x y → Q y H'
  | .exc c fs S => ∀ M' H' C dx, Ext M H M' H' → RelH G M' S H' → G.mg c = some (.ref C) → ExcR G M' fs dx H' → W (.ref C) dx s H'
  | .bad => False
section
variable {a b a2 b2 : Type} {G : Gx} {R : Mp → Hp → a → b → Prop} {R2 : Mp → Hp → a2 → b2 → Prop} {W : WX} {M M1 : Mp} {H H1 : Hp} {s : L2.St} {Q Q' : b → Hp → Prop} {Q2 : b2 → Hp → Prop}
theorem Post.mono {r : Rs a} (e : Ext M H M1 H1) (h : Post G R W M H s r Q) : Post G R W M1 H1 s r Q := by
  cases r with
  | ok x S => exact fun M' y H' e' => h M' y H' (e.trans e')
  | exc c fs S => exact fun M' H' C dx e' => h M' H' C dx (e.trans e')
  | bad => exact h
theorem Post.imp {r : Rs a} (h : Post G R W M H s r Q) (k : ∀ y H, Q y H → Q' y H) : Post G R W M H s r Q' := by
  cases r with
  | ok x S => exact fun M' y H' e rh q => k _ _ (h M' y H' e rh q)
  | exc c fs S => exact h
  | bad => exact h
theorem Post.bind {r : Rs a} {f : a → Store → Rs a2} (h : Post G R2 W M H s (r.bind f) Q2) :
    Post G R W M H s r fun y H1 => ∃ M1 x S1, Ext M H M1 H1 ∧ RelH G M1 S1 H1 ∧ R M1 H1 x y ∧ Post G R2 W M1 H1 s (f x S1) Q2 := by
  cases r with
  | ok x S => exact fun M1 y H1 e rh q => ⟨M1, x, S, e, rh, q, Post.mono e h⟩
  | exc c fs S => exact h
  | bad => exact h
end
/-- the text's tables of code objects -/
class Tb where
  T : List (Addr × Str)
  lam : Option (Addr × Mp × Hp)
variable [Tb]
abbrev gx (X : Cx) : Gx := ⟨X.K, X.mg, Tb.T, X.pn, Tb.lam⟩
abbrev gk (K : PySem.W.Frag) (mg : Str → Option Value) : Gx := ⟨K, mg, Tb.T, [], Tb.lam⟩
abbrev RD (G : Gx) : Mp → Hp → D → V → Prop := fun M _ d v => RelD G M d v
abbrev RB : Mp → Hp → Bool → Bool → Prop := fun _ _ b c => b = c
abbrev RA (G : Gx) : Mp → Hp → List D → List V → Prop := fun M _ d v => RelDs G M d v
/-- the reading of an expression that tells d -/
def tE (G : Gx) (W : WX) (d : DE) : TE := fun s H Q => ∃ M r S, EnvR G M H r s ∧ RelH G M S H ∧ Post G (RD G) W M H s (d r S) Q
def tT (G : Gx) (W : WX) (d : DT) : TT := fun s H Q => ∃ M r S, EnvR G M H r s ∧ RelH G M S H ∧ Post G RB W M H s (d r S) Q
def tA (G : Gx) (W : WX) (d : DA) : TA := fun s H Q => ∃ M r S, EnvR G M H r s ∧ RelH G M S H ∧ Post G (RA G) W M H s (d r S) Q
def RSrc (G : Gx) (s : L2.St) : Mp → Hp → Src → V → Prop := fun M _ c v => match c with
  | .cst true xs => RelD G M (.tup xs) v
  | .cst false xs => RelD G M (.lst xs) v
  | .own i => ∃ a, v = .ref a ∧ s[i]? = some (some (.ref a))
  | .loc l => RelD G M (.ref l) v
def tL (G : Gx) (W : WX) (d : DL) : TE := fun s H Q => ∃ M r S, EnvR G M H r s ∧ RelH G M S H ∧ Post G (RSrc G s) W M H s (d r S) Q
abbrev SE (X : Cx) (W : WX) (e : Expr) (d : DE) : Prop := PE X e (tE (gx X) W d)
abbrev ST (X : Cx) (W : WX) (e : Expr) (d : DT) : Prop := PT X e (tT (gx X) W d)
abbrev SA (X : Cx) (W : WX) (es : List Expr) (d : DA) : Prop := PA X es (tA (gx X) W d)
abbrev SL (X : Cx) (W : WX) (e : Expr) (d : DL) : Prop := PE X e (tL (gx X) W d)
/-! ### statements: told from the def's entry M0, H0 -/
structure Wst (G : Gx) (M0 : Mp) (H0 : Hp) (M : Mp) (r : Rho) (S : Store) (s : L2.St) (H : Hp) : Prop where
  env : EnvR G M H r s
  heap : RelH G M S H
  ext : Ext M0 H0 M H
  own : ∀ (i : Nat) (xs : List D) (a : Addr), r[i]? = some (.own xs) → s[i]? = some (some (.ref a)) → H0 a = none
theorem Wst.mono {G : Gx} {M0 : Mp} {H0 : Hp} {M M' : Mp} {r : Rho} {S S' : Store} {s : L2.St} {H H' : Hp} (h : Wst G M0 H0 M r S s H) (e : Ext M H M' H') (rh : RelH G M' S' H') : Wst G M0 H0 M' r S' s H' :=
  ⟨h.env.mono e, rh, h.ext.trans e, h.own⟩
/-- what stands goes on standing -/
structure Le (M M' : Mp) : Prop where
  loc : ∀ l a, M.loc l = some a → M'.loc l = some a
  tup : ∀ a vs, M.tup a = some vs → M'.tup a = some vs
  lst : ∀ a vs, M.lst a = some vs → M'.lst a = some vs
theorem Le.refl {M : Mp} : Le M M := ⟨fun _ _ h => h, fun _ _ h => h, fun _ _ h => h⟩
theorem Le.trans {M M1 M2 : Mp} (a : Le M M1) (b : Le M1 M2) : Le M M2 := ⟨fun l x h => b.loc l x (a.loc l x h), fun l x h => b.tup l x (a.tup l x h), fun l x h => b.lst l x (a.lst l x h)⟩
theorem Ext.le {M M' : Mp} {H H' : Hp} (e : Ext M H M' H') : Le M M' := ⟨e.loc, e.tup, e.lst⟩
mutual
theorem RelD.le {G : Gx} {M M' : Mp} (e : Le M M') : ∀ {d : D} {v : V}, RelD G M d v → RelD G M' d v
  | .non, _, h => h
  | .bl _, _, h => h
  | .int _, _, h => h
  | .str _, _, h => h
  | .tup ds, _, h => by
    obtain ⟨a, vs, rfl, h1, h2⟩ := h
    exact ⟨a, vs, rfl, e.tup a vs h1, RelDs.le e h2⟩
  | .lst ds, _, h => by
    obtain ⟨a, vs, rfl, h1, h2⟩ := h
    exact ⟨a, vs, rfl, h1.imp (e.lst a vs) id, RelDs.le e h2⟩
  | .ref l, _, h => by
    obtain ⟨a, rfl, h1⟩ := h
    exact ⟨a, rfl, e.loc l a h1⟩
  | .cls _, _, h => h
  | .fn _, _, h => h
theorem RelDs.le {G : Gx} {M M' : Mp} (e : Le M M') : ∀ {ds : List D} {vs : List V}, RelDs G M ds vs → RelDs G M' ds vs
  | [], _, h => h
  | d :: ds, _, h => by
    obtain ⟨v, r, rfl, h1, h2⟩ := h
    exact ⟨v, r, rfl, RelD.le e h1, RelDs.le e h2⟩
end
def PostS (G : Gx) (M0 : Mp) (H0 : Hp) (W : WX) (M1 : Mp) (r : Sr) (D : Ends) : Prop := match r with
  | .next r S => ∀ M s H, Wst G M0 H0 M r S s H → Le M1 M → D.nx s H
  | .ret d r S => ∀ M v s H, Wst G M0 H0 M r S s H → Le M1 M → RelD G M d v → D.rt v H
  | .brk r S => ∀ M s H, Wst G M0 H0 M r S s H → Le M1 M → D.bk s H
  | .cont r S => ∀ M s H, Wst G M0 H0 M r S s H → Le M1 M → D.ct s H
  | .exc c fs r S => ∀ M s H C dx, Wst G M0 H0 M r S s H → Le M1 M → G.mg c = some (.ref C) → ExcR G M fs dx H → W (.ref C) dx s H
  | .bad => False
def tS (G : Gx) (M0 : Mp) (H0 : Hp) (W : WX) (d : DS) : TS := fun D s H => ∃ M r S, Wst G M0 H0 M r S s H ∧ PostS G M0 H0 W M (d r S) D
abbrev SS (X : Cx) (M0 : Mp) (H0 : Hp) (W : WX) (st : Stmt) (d : DS) : Prop := PS X st (tS (gx X) M0 H0 W d)
abbrev SSs (X : Cx) (M0 : Mp) (H0 : Hp) (W : WX) (st : List Stmt) (d : DS) : Prop := PSs X st (tS (gx X) M0 H0 W d)
theorem PostS.le {G : Gx} {M0 : Mp} {H0 : Hp} {W : WX} {M1 M2 : Mp} {r : Sr} {D : Ends} (h : PostS G M0 H0 W M1 r D) (e : Le M1 M2) : PostS G M0 H0 W M2 r D := by
  cases r with
  | next r S => exact fun M s H w l => h M s H w (e.trans l)
  | ret d r S => exact fun M v s H w l => h M v s H w (e.trans l)
  | brk r S => exact fun M s H w l => h M s H w (e.trans l)
  | cont r S => exact fun M s H w l => h M s H w (e.trans l)
  | exc c fs r S => exact fun M s H C dx w l => h M s H C dx w (e.trans l)
  | bad => exact h
/-- an expression's end within a statement -/
theorem PostS.toS {a b : Type} {G : Gx} {M0 : Mp} {H0 : Hp} {W : WX} {D : Ends} {R : Mp → Hp → a → b → Prop} {x : Rs a} {M : Mp} {r : Rho} {S : Store} {s : L2.St} {H : Hp} {f : a → Store → Sr} (en : Wst G M0 H0 M r S s H) (h : PostS G M0 H0 W M (x.toS r f) D) :
    Post G R W M H s x fun y H1 => ∃ M1 v S1, Wst G M0 H0 M1 r S1 s H1 ∧ Ext M H M1 H1 ∧ R M1 H1 v y ∧ PostS G M0 H0 W M1 (f v S1) D := by
  cases x with
  | ok v S1 => exact fun M1 y H1 e rh q => ⟨M1, v, S1, en.mono e rh, e, q, PostS.le h e.le⟩
  | exc c fs S1 => exact fun M1 H1 C dx e rh q1 q2 => h M1 s H1 C dx (en.mono e rh) e.le q1 q2
  | bad => exact h
end Dn

end
section
set_option Elab.async false
set_option linter.all false
set_option maxRecDepth 100000
set_option maxHeartbeats 4000000
/-! The rules: expressions. -/
namespace Dn
open PySem PySem.Spec PyProof.Rows L2
variable [Tb]
section
variable {X : Cx} {W : WX} {a b c e : Expr} {da db dc : DE} {pos : Pos}
/-! ### names, constants -/
theorem se_var {i : Nat} {x : Str} (hN : X.N[i]? = some x) (hv : Vis X.env.scope x) (hd : (x == ("__debug__" : Str)) = false := by decide) (hcd : (x == ("__classdict__" : Str)) = false := by decide) : SE X W (.Name x pos) (eVar i) := by
  refine (pe_var (i := i) hN hv hd hcd).dimp ?_
  rintro s H Q ⟨M, r, S, en, rh, p⟩
  unfold eVar at p
  cases q : r[i]? with
  | none => rw [q] at p; exact p.elim
  | some z =>
    rw [q] at p
    obtain ⟨v, h1, h2⟩ := en.sl i z q
    cases z with
    | val d =>
      obtain ⟨x, rfl, h3⟩ := h2
      exact ⟨x, h1, p M x H Ext.refl rh h3⟩
    | un => exact p.elim
    | own _ => exact p.elim
    | ownd _ _ => exact p.elim
    | exc _ _ => exact p.elim
    | lam => exact p.elim
theorem se_c {d : D} {v : V} (h : PE X e (tC v)) (k : ∀ M, RelD (gx X) M d v) : SE X W e (eC d) := by
  refine h.dimp ?_
  rintro s H Q ⟨M, r, S, en, rh, p⟩
  exact p M v H Ext.refl rh (k M)
theorem se_int {i j} : SE X W (.Constant (.int i) j pos) (eC (.int i)) := se_c pe_int fun _ => rfl
theorem se_bl {i j} : SE X W (.Constant (.bool i) j pos) (eC (.bl i)) := se_c pe_bl fun _ => rfl
theorem se_non {j} : SE X W (.Constant .none j pos) (eC .non) := se_c pe_non fun _ => rfl
theorem se_str {x j} : SE X W (.Constant (.str x) j pos) (eC (.str x)) := se_c pe_str fun _ => rfl
/-- a constant of the module's: a number, a text -/
theorem se_gint {x : Str} {i : Int} {t : Tok} (hg : Gl X x) (hm : X.mg x = some (.int i t)) (hd : (x == ("__debug__" : Str)) = false := by decide) : SE X W (.Name x pos) (eC (.int i)) := se_c (pe_glob (v := .int i) hg hm ⟨_, rfl⟩ hd) fun _ => rfl
/-! ### operators -/
theorem bind2 {a b : Type} {G : Gx} {M : Mp} {r : Rho} {S : Store} {H : Hp} {s : L2.St} {da db : DE} {R : Mp → Hp → a → b → Prop} {f : D → D → Store → Rs a} {Q : b → Hp → Prop} (en : EnvR G M H r s)
    (p : Post G R W M H s ((da r S).bind fun x S => (db r S).bind fun y S => f x y S) Q) :
    Post G (RD G) W M H s (da r S) fun v H1 => ∃ M1 S1, Ext M H M1 H1 ∧ RelH G M1 S1 H1 ∧ EnvR G M1 H1 r s ∧ Post G (RD G) W M1 H1 s (db r S1) fun u H2 => ∃ M2 x y S2, Ext M1 H1 M2 H2 ∧ RelH G M2 S2 H2 ∧ EnvR G M2 H2 r s ∧ RelD G M2 x v ∧ RelD G M2 y u ∧ Post G R W M2 H2 s (f x y S2) Q := by
  refine p.bind.imp fun v H1 h => ?_
  obtain ⟨M1, x, S1, e1, rh1, rd1, p1⟩ := h
  refine ⟨M1, S1, e1, rh1, en.mono e1, p1.bind.imp fun u H2 h => ?_⟩
  obtain ⟨M2, y, S2, e2, rh2, rd2, p2⟩ := h
  exact ⟨M2, x, y, S2, e2, rh2, (en.mono e1).mono e2, rd1.mono e2, rd2, p2⟩
/-- what an operator tells, over the heap -/
def OpS (G : Gx) (r : R2) (f : Store → D → D → Option D) : Prop := ∀ (M : Mp) (S : Store) (H : Hp) (x y z : D) (v u : V) (Q : VK), RelH G M S H → RelD G M x v → RelD G M y u → f S x y = some z →
  (∀ M' w H', Ext M H M' H' → RelH G M' S H' → RelD G M' z w → Q w H') → r v u H Q
theorem se_op {op : Operator} {r : R2} {f : Store → D → D → Option D} (ho : OpR X (binaryOp op) r) (hf : OpS (gx X) r f) (ha : SE X W a da) (hb : SE X W b db) : SE X W (.BinOp a op b pos) (eOp f da db) := by
  refine (pe_op ho ha hb).dimp ?_
  rintro s H Q ⟨M, r, S, en, rh, p⟩
  refine ⟨M, r, S, en, rh, (bind2 en p).imp fun v H1 h => ?_⟩
  obtain ⟨M1, S1, e1, rh1, en1, p1⟩ := h
  refine ⟨M1, r, S1, en1, rh1, p1.imp fun u H2 h => ?_⟩
  obtain ⟨M2, x, y, S2, e2, rh2, en2, rd1, rd2, p2⟩ := h
  cases q : f S2 x y with
  | none => rw [q] at p2; exact p2.elim
  | some z =>
    rw [q] at p2
    exact hf M2 S2 H2 x y z v u Q rh2 rd1 rd2 q p2
/-- a list's items of a heap -/
theorem listOf_ok {G : Gx} {M : Mp} {S : Store} {H : Hp} {x : D} {v : V} {xs : List D} (rh : RelH G M S H) (rd : RelD G M x v) (h : listOf S x = some xs) : ∃ p vs, v = .ref p ∧ SqL G.K H p vs ∧ RelDs G M xs vs := by
  cases x with
  | lst ds =>
    cases h
    obtain ⟨p, vs, rfl, h1, h2⟩ := rd
    exact ⟨p, vs, rfl, rh.sq h1, h2⟩
  | ref l =>
    obtain ⟨p, rfl, h1⟩ := rd
    dsimp only [listOf] at h
    cases q : S[l]? with
    | none => rw [q] at h; cases h
    | some o =>
      rw [q] at h
      cases o with
      | lst ds =>
        cases h
        obtain ⟨a, e1, vs, e2, e3⟩ := rh.obj l _ q
        rw [h1] at e1; cases e1
        exact ⟨p, vs, rfl, .inl (.inl e2), e3⟩
      | ins _ _ => cases h
      | dct _ _ => cases h
  | _ => cases h
theorem Rd.sql {K : PySem.W.Frag} {H : Hp} {p : Addr} {vs : List V} (h : Rd H p (.lst vs)) : SqL K H p vs := .inl h
/-- a new object is laid: a list that stays -/
theorem Ext.lstNew {G : Gx} {M : Mp} {S : Store} {H : Hp} {p : Addr} {ds : List D} {vs : List V} (rh : RelH G M S H) (hp : H p = none) (h : RelDs G M ds vs) :
    ∃ M', Ext M H M' (upd H p (.lst vs)) ∧ RelH G M' S (upd H p (.lst vs)) ∧ RelD G M' (.lst ds) (.ref p) := by
  have nt : M.tup p = none := by
    cases q : M.tup p with
    | none => rfl
    | some x => have := rh.tup p x q; rw [hp] at this; cases this
  have nl : M.lst p = none := by
    cases q : M.lst p with
    | none => rfl
    | some x =>
      rcases rh.lst p x q with z | ⟨o, z⟩ <;> (rw [hp] at z; cases z)
  have no : ∀ l, M.loc l ≠ some p := fun l q => by
    have hl := rh.dom l p q
    obtain ⟨a, e1, e2⟩ := rh.obj l S[l] (by simp [hl])
    rw [q] at e1; cases e1
    rw [hp] at e2
    cases hS : S[l] with
    | lst ds => rw [hS] at e2; obtain ⟨_, z, _⟩ := e2; cases z
    | ins c fs => rw [hS] at e2; obtain ⟨_, _, _, z, _⟩ := e2; cases z
    | dct _ _ => rw [hS] at e2; exact DctR.not e2
  have ne : ∀ b o, H b = some o → b ≠ p := fun b o h q => by rw [q, hp] at h; cases h
  have ex : Ext M H ⟨M.loc, M.tup, fun a => if a = p then some vs else M.lst a⟩ (upd H p (.lst vs)) := by
    refine ⟨fun _ _ h => h, fun _ _ h => h, fun a x h => ?_, fun _ _ h => .inl h, fun a x h => ?_, fun a o h _ _ => ?_, fun a o h => ⟨o, ?_⟩⟩
    · have : a ≠ p := fun q => by rw [q, nl] at h; cases h
      show (if a = p then some vs else M.lst a) = some x
      rw [if_neg this]; exact h
    · by_cases q : a = p
      · exact .inr (by rw [q]; exact hp)
      · exact .inl (by rw [← h]; show M.lst a = (if a = p then some vs else M.lst a); rw [if_neg q])
    · rw [upd_ne (ne a o h)]; exact h
    · rw [upd_ne (ne a o h)]; exact h
  refine ⟨_, ex, ?_, p, vs, rfl, .inl (by show (if p = p then some vs else M.lst p) = some vs; rw [if_pos rfl]), h.mono ex⟩
  refine ⟨fun l o q => ?_, rh.dom, rh.inj, fun a x h => ?_, fun a x h => ?_, fun a x l h => ?_, tabs_fresh rh.tabs hp⟩
  · obtain ⟨a, e1, e2⟩ := rh.obj l o q
    have hne : a ≠ p := fun z => no l (by rw [← z]; exact e1)
    refine ⟨a, e1, ?_⟩
    rw [upd_ne hne]
    exact e2.mono ex
  · have := rh.tup a x h
    rw [upd_ne (ne a _ this)]; exact this
  · by_cases q : a = p
    · subst q
      have h' : (if a = a then some vs else M.lst a) = some x := h
      rw [if_pos rfl] at h'
      cases h'
      exact .inl upd_same
    · have h' : (if a = p then some vs else M.lst a) = some x := h
      rw [if_neg q] at h'
      rcases rh.lst a x h' with z | ⟨o, z⟩
      · exact .inl (by rw [upd_ne q]; exact z)
      · exact .inr ⟨o, by rw [upd_ne q]; exact z⟩
  · by_cases q : a = p
    · rw [q]; exact no l
    · have h' : (if a = p then some vs else M.lst a) = some x := h
      rw [if_neg q] at h'
      exact rh.apt a x l h'
/-- .. a tuple -/
theorem Ext.tupNew {G : Gx} {M : Mp} {S : Store} {H : Hp} {p : Addr} {ds : List D} {vs : List V} (rh : RelH G M S H) (hp : H p = none) (h : RelDs G M ds vs) :
    ∃ M', Ext M H M' (upd H p (.tup vs)) ∧ RelH G M' S (upd H p (.tup vs)) ∧ RelD G M' (.tup ds) (.ref p) := by
  have nt : M.tup p = none := by
    cases q : M.tup p with
    | none => rfl
    | some x => have := rh.tup p x q; rw [hp] at this; cases this
  have nl : M.lst p = none := by
    cases q : M.lst p with
    | none => rfl
    | some x =>
      rcases rh.lst p x q with z | ⟨o, z⟩ <;> (rw [hp] at z; cases z)
  have no : ∀ l, M.loc l ≠ some p := fun l q => by
    have hl := rh.dom l p q
    obtain ⟨a, e1, e2⟩ := rh.obj l S[l] (by simp [hl])
    rw [q] at e1; cases e1
    rw [hp] at e2
    cases hS : S[l] with
    | lst ds => rw [hS] at e2; obtain ⟨_, z, _⟩ := e2; cases z
    | ins c fs => rw [hS] at e2; obtain ⟨_, _, _, z, _⟩ := e2; cases z
    | dct _ _ => rw [hS] at e2; exact DctR.not e2
  have ne : ∀ b o, H b = some o → b ≠ p := fun b o h q => by rw [q, hp] at h; cases h
  have ex : Ext M H ⟨M.loc, fun a => if a = p then some vs else M.tup a, M.lst⟩ (upd H p (.tup vs)) := by
    refine ⟨fun _ _ h => h, fun a x h => ?_, fun _ _ h => h, fun _ _ h => .inl h, fun _ _ h => .inl h, fun a o h _ _ => ?_, fun a o h => ⟨o, ?_⟩⟩
    · have : a ≠ p := fun q => by rw [q, nt] at h; cases h
      show (if a = p then some vs else M.tup a) = some x
      rw [if_neg this]; exact h
    · rw [upd_ne (ne a o h)]; exact h
    · rw [upd_ne (ne a o h)]; exact h
  refine ⟨_, ex, ?_, p, vs, rfl, (by show (if p = p then some vs else M.tup p) = some vs; rw [if_pos rfl]), h.mono ex⟩
  refine ⟨fun l o q => ?_, rh.dom, rh.inj, fun a x h => ?_, fun a x h => ?_, rh.apt, tabs_fresh rh.tabs hp⟩
  · obtain ⟨a, e1, e2⟩ := rh.obj l o q
    have hne : a ≠ p := fun z => no l (by rw [← z]; exact e1)
    refine ⟨a, e1, ?_⟩
    rw [upd_ne hne]
    exact e2.mono ex
  · by_cases q : a = p
    · subst q
      have h' : (if a = a then some vs else M.tup a) = some x := h
      rw [if_pos rfl] at h'
      cases h'
      exact upd_same
    · have h' : (if a = p then some vs else M.tup a) = some x := h
      rw [if_neg q] at h'
      rw [upd_ne q]
      exact rh.tup a x h'
  · have q : a ≠ p := fun q => by rw [q, nl] at h; cases h
    rcases rh.lst a x h with z | ⟨o, z⟩
    · exact .inl (by rw [upd_ne q]; exact z)
    · exact .inr ⟨o, by rw [upd_ne q]; exact z⟩
/-- .. that is numbered: a list, an instance (its own dict at d) -/
theorem Ext.locNew {G : Gx} {M : Mp} {S : Store} {H : Hp} {p : Addr} {ds : List D} {vs : List V} (rh : RelH G M S H) (hp : H p = none) (h : RelDs G M ds vs) :
    ∃ M', Ext M H M' (upd H p (.lst vs)) ∧ RelH G M' (S ++ [.lst ds]) (upd H p (.lst vs)) ∧ RelD G M' (.ref S.length) (.ref p) := by
  have nt : M.tup p = none := by
    cases q : M.tup p with
    | none => rfl
    | some x => have := rh.tup p x q; rw [hp] at this; cases this
  have nl : M.lst p = none := by
    cases q : M.lst p with
    | none => rfl
    | some x =>
      rcases rh.lst p x q with z | ⟨o, z⟩ <;> (rw [hp] at z; cases z)
  have no : ∀ l, M.loc l ≠ some p := fun l q => by
    have hl := rh.dom l p q
    obtain ⟨a, e1, e2⟩ := rh.obj l S[l] (by simp [hl])
    rw [q] at e1; cases e1
    rw [hp] at e2
    cases hS : S[l] with
    | lst ds => rw [hS] at e2; obtain ⟨_, z, _⟩ := e2; cases z
    | ins c fs => rw [hS] at e2; obtain ⟨_, _, _, z, _⟩ := e2; cases z
    | dct _ _ => rw [hS] at e2; exact DctR.not e2
  have ne : ∀ b o, H b = some o → b ≠ p := fun b o h q => by rw [q, hp] at h; cases h
  have nS : ∀ l x, M.loc l = some x → l ≠ S.length := fun l x h q => by have := rh.dom l x h; omega
  have ex : Ext M H ⟨fun l => if l = S.length then some p else M.loc l, M.tup, M.lst⟩ (upd H p (.lst vs)) := by
    refine ⟨fun l x h => ?_, fun _ _ h => h, fun _ _ h => h, fun l x h => ?_, fun _ _ h => .inl h, fun a o h _ _ => ?_, fun a o h => ⟨o, ?_⟩⟩
    · show (if l = S.length then some p else M.loc l) = some x
      rw [if_neg (nS l x h)]; exact h
    · have h' : (if l = S.length then some p else M.loc l) = some x := h
      by_cases q : l = S.length
      · rw [if_pos q] at h'; cases h'
        exact .inr hp
      · rw [if_neg q] at h'; exact .inl h'
    · rw [upd_ne (ne a o h)]; exact h
    · rw [upd_ne (ne a o h)]; exact h
  refine ⟨_, ex, ?_, p, rfl, by show (if S.length = S.length then some p else M.loc S.length) = some p; rw [if_pos rfl]⟩
  refine ⟨fun l o q => ?_, fun l x h => ?_, fun l k x h1 h2 => ?_, fun a x h => ?_, fun a x h => ?_, fun a x l h q => ?_, tabs_fresh rh.tabs hp⟩
  · by_cases hl : l = S.length
    · subst hl
      rw [List.getElem?_append_right (Nat.le_refl _)] at q
      simp at q
      subst q
      refine ⟨p, by show (if S.length = S.length then some p else M.loc S.length) = some p; rw [if_pos rfl], vs, upd_same, h.mono ex⟩
    · have hlt : l < S.length := by
        have := (List.getElem?_eq_some_iff.mp q).1
        simp at this; omega
      rw [List.getElem?_append_left hlt] at q
      obtain ⟨a, e1, e2⟩ := rh.obj l o q
      have hne : a ≠ p := fun z => no l (by rw [← z]; exact e1)
      refine ⟨a, by show (if l = S.length then some p else M.loc l) = some a; rw [if_neg hl]; exact e1, ?_⟩
      rw [upd_ne hne]
      exact e2.mono ex
  · have h' : (if l = S.length then some p else M.loc l) = some x := h
    by_cases q : l = S.length
    · rw [q]; simp
    · rw [if_neg q] at h'
      have := rh.dom l x h'
      simp; omega
  · have h1' : (if l = S.length then some p else M.loc l) = some x := h1
    have h2' : (if k = S.length then some p else M.loc k) = some x := h2
    by_cases q1 : l = S.length <;> by_cases q2 : k = S.length
    · rw [q1, q2]
    · rw [if_pos q1] at h1'; rw [if_neg q2] at h2'; cases h1'; exact absurd h2' (no k)
    · rw [if_neg q1] at h1'; rw [if_pos q2] at h2'; cases h2'; exact absurd h1' (no l)
    · rw [if_neg q1] at h1'; rw [if_neg q2] at h2'; exact rh.inj l k x h1' h2'
  · have := rh.tup a x h
    rw [upd_ne (ne a _ this)]; exact this
  · have q : a ≠ p := fun q => by rw [q, nl] at h; cases h
    rcases rh.lst a x h with z | ⟨o, z⟩
    · exact .inl (by rw [upd_ne q]; exact z)
    · exact .inr ⟨o, by rw [upd_ne q]; exact z⟩
  · have h' : (if l = S.length then some p else M.loc l) = some a := q
    by_cases z : l = S.length
    · rw [if_pos z] at h'; cases h'
      rw [nl] at h; cases h
    · rw [if_neg z] at h'
      exact rh.apt a x l h h'
end
end Dn

end
section
set_option Elab.async false
set_option linter.all false
set_option maxRecDepth 100000
set_option maxHeartbeats 4000000
/-! The rules: operators by values. -/
namespace Dn
open PySem PySem.Spec PyProof.Rows L2
variable [Tb]
/-! ### data -/
mutual
theorem P_lay : ∀ {k : Nat} {d : D}, D.pl k d = true → d.P.canLay0 = true ∧ d.P.depth ≤ k
  | _, .non, _ => by simp [D.P, PyData.canLay0, PyData.depth]
  | _, .bl _, _ => by simp [D.P, PyData.canLay0, PyData.depth]
  | _, .int _, _ => by simp [D.P, PyData.canLay0, PyData.depth]
  | _, .str x, h => by
    have h' : PyData.strOk x = true := by cases ‹Nat› <;> simpa [D.pl] using h
    simp [D.P, PyData.canLay0, PyData.depth, h']
  | 0, .tup _, h => by simp [D.pl] at h
  | 0, .lst _, h => by simp [D.pl] at h
  | k + 1, .tup xs, h => by
    have q := Ps_lay (k := k) (xs := xs) (by simpa [D.pl] using h)
    simp only [D.P, PyData.canLay0, PyData.depth]
    exact ⟨q.1, by omega⟩
  | k + 1, .lst xs, h => by
    have q := Ps_lay (k := k) (xs := xs) (by simpa [D.pl] using h)
    simp only [D.P, PyData.canLay0, PyData.depth]
    exact ⟨q.1, by omega⟩
  | k, .ref _, h => by cases k <;> simp [D.pl] at h
  | k, .cls _, h => by cases k <;> simp [D.pl] at h
  | k, .fn _, h => by cases k <;> simp [D.pl] at h
theorem Ps_lay : ∀ {k : Nat} {xs : List D}, D.pls k xs = true → PyData.canLayAll0 (D.Ps xs) = true ∧ PyData.depthAll (D.Ps xs) ≤ k
  | _, [], _ => by simp [D.Ps, PyData.canLayAll0, PyData.depthAll]
  | k, x :: xs, h => by
    have h' : D.pl k x = true ∧ D.pls k xs = true := by simpa [D.pls] using h
    have q1 := P_lay h'.1
    have q2 := Ps_lay h'.2
    simp only [D.Ps, PyData.canLayAll0, PyData.depthAll]
    exact ⟨by simp [q1.1, q2.1], by omega⟩
end
theorem shaped_of {d : D} (h : D.pl 64 d = true) : SeqAt.shaped d.P = true := by
  have q := P_lay h
  unfold SeqAt.shaped
  simp [q.1, q.2]
mutual
theorem eqv_of : ∀ {k m : Nat} (x y : D), D.pl k x = true → D.pl m y = true → PyData.eqv x.P y.P = eqD x y
  | _, _, .non, y, _, h => by cases y <;> simp_all [D.P, PyData.eqv, eqD, D.pl]
  | _, _, .bl _, y, _, h => by cases y <;> simp_all [D.P, PyData.eqv, eqD, D.pl]
  | _, _, .int _, y, _, h => by cases y <;> simp_all [D.P, PyData.eqv, eqD, D.pl]
  | _, _, .str _, y, _, h => by cases y <;> simp_all [D.P, PyData.eqv, eqD, D.pl]
  | 0, _, .tup _, _, h, _ => by simp [D.pl] at h
  | 0, _, .lst _, _, h, _ => by simp [D.pl] at h
  | k + 1, m, .tup xs, y, hx, hy => by
    cases y with
    | tup ys =>
      cases m with
      | zero => simp [D.pl] at hy
      | succ m =>
        simp only [D.P, PyData.eqv, eqD]
        exact eqvs_of xs ys (by simpa [D.pl] using hx) (by simpa [D.pl] using hy)
    | _ => cases m <;> simp_all [D.P, PyData.eqv, eqD, D.pl]
  | k + 1, m, .lst xs, y, hx, hy => by
    cases y with
    | lst ys =>
      cases m with
      | zero => simp [D.pl] at hy
      | succ m =>
        simp only [D.P, PyData.eqv, eqD]
        exact eqvs_of xs ys (by simpa [D.pl] using hx) (by simpa [D.pl] using hy)
    | _ => cases m <;> simp_all [D.P, PyData.eqv, eqD, D.pl]
  | k, _, .ref _, _, h, _ => by cases k <;> simp [D.pl] at h
  | k, _, .cls _, _, h, _ => by cases k <;> simp [D.pl] at h
  | k, _, .fn _, _, h, _ => by cases k <;> simp [D.pl] at h
theorem eqvs_of : ∀ {k m : Nat} (xs ys : List D), D.pls k xs = true → D.pls m ys = true → PyData.eqvAll (D.Ps xs) (D.Ps ys) = eqDs xs ys
  | _, _, [], [], _, _ => by simp [D.Ps, PyData.eqvAll, eqDs]
  | _, _, [], _ :: _, _, _ => by simp [D.Ps, PyData.eqvAll, eqDs]
  | _, _, _ :: _, [], _, _ => by simp [D.Ps, PyData.eqvAll, eqDs]
  | k, m, x :: xs, y :: ys, hx, hy => by
    have h1 : D.pl k x = true ∧ D.pls k xs = true := by simpa [D.pls] using hx
    have h2 : D.pl m y = true ∧ D.pls m ys = true := by simpa [D.pls] using hy
    simp only [D.Ps, PyData.eqvAll, eqDs]
    rw [eqv_of x y h1.1 h2.1, eqvs_of xs ys h1.2 h2.2]
end
mutual
/-- data as the layer reads it -/
theorem RelD.dp {G : Gx} {M : Mp} {S : Store} {H : Hp} (rh : RelH G M S H) : ∀ {k : Nat} {d : D} {v : V}, D.pl k d = true → RelD G M d v → Dp G.K H v d.P
  | _, .non, _, _, h => by cases (show _ = _ from h); exact .non
  | _, .bl b, _, _, h => by cases (show _ = _ from h); exact .bl b
  | _, .int i, _, _, h => by cases (show _ = _ from h); exact .int i
  | _, .str x, _, _, h => by cases (show _ = _ from h); exact .str x
  | 0, .tup _, _, h, _ => by simp [D.pl] at h
  | 0, .lst _, _, h, _ => by simp [D.pl] at h
  | k + 1, .tup xs, _, h, r => by
    obtain ⟨a, vs, rfl, h1, h2⟩ := r
    simp only [D.P]
    refine .tup (xs := vs) ?_ (RelDs.dps rh (k := k) (by simpa [D.pl] using h) h2)
    exact .inl (.inl (rh.tup a vs h1))
  | k + 1, .lst xs, _, h, r => by
    obtain ⟨a, vs, rfl, h1, h2⟩ := r
    simp only [D.P]
    exact .lst (xs := vs) (rh.sq h1) (RelDs.dps rh (k := k) (by simpa [D.pl] using h) h2)
  | k, .ref _, _, h, _ => by cases k <;> simp [D.pl] at h
  | k, .cls _, _, h, _ => by cases k <;> simp [D.pl] at h
  | k, .fn _, _, h, _ => by cases k <;> simp [D.pl] at h
theorem RelDs.dps {G : Gx} {M : Mp} {S : Store} {H : Hp} (rh : RelH G M S H) : ∀ {k : Nat} {ds : List D} {vs : List V}, D.pls k ds = true → RelDs G M ds vs → DpAll G.K H vs (D.Ps ds)
  | _, [], _, _, h => by cases (show _ = _ from h); exact .nil
  | k, x :: xs, _, h, r => by
    obtain ⟨v, vs, rfl, h1, h2⟩ := r
    have h' : D.pl k x = true ∧ D.pls k xs = true := by simpa [D.pls] using h
    simp only [D.Ps]
    exact .cons (RelD.dp rh h'.1 h1) (RelDs.dps rh h'.2 h2)
end
/-- a tuple of a heap -/
theorem tup_ok {G : Gx} {M : Mp} {S : Store} {H : Hp} {v : V} {xs : List D} (rh : RelH G M S H) (rd : RelD G M (.tup xs) v) : ∃ p vs, v = .ref p ∧ SqT G.K H p vs ∧ RelDs G M xs vs := by
  obtain ⟨a, vs, rfl, h1, h2⟩ := rd
  exact ⟨a, vs, rfl, .inl (.inl (rh.tup a vs h1)), h2⟩
theorem len_line {G : Gx} {M : Mp} {ds es : List D} {vs ws : List V} (h1 : RelDs G M ds vs) (h2 : RelDs G M es ws) (h : ds.length + es.length ≤ sizeLine) : vs.length + ws.length ≤ sizeLine := by
  rw [← h1.len, ← h2.len]; exact h
section
variable {X : Cx}
/-! ### + of lists wherever they stand, of tuples, the left one empty -/
def rCatQ (K : PySem.W.Frag) : R2 := fun x y H Q => ∃ l b xs zs, x = .ref l ∧ y = .ref b ∧ SqL K H l xs ∧ SqL K H b zs ∧ xs.length + zs.length ≤ sizeLine ∧ ∀ p, H p = none → Q (.ref p) (upd H p (.lst (xs ++ zs)))
def rCatT0 (K : PySem.W.Frag) : R2 := fun x y H Q => ∃ a b ys, x = .ref a ∧ y = .ref b ∧ SqT K H a [] ∧ SqT K H b ys ∧ Q (.ref b) H
theorem op_catT0 : OpR X (binaryOp .Add) (rCatT0 X.K) := by
  intro pins s z H x y v u Q I rx ry h
  obtain ⟨a, b, ys, rfl, rfl, ha, hb, q⟩ := h
  cases rx
  cases ry
  obtain ⟨its, r1, p1, _⟩ := I.tuple ha
  obtain ⟨its2, r2, p2, _⟩ := I.tuple hb
  cases r1
  obtain ⟨⟨cls, dd, data, sl⟩, ho, hc, n, hd⟩ := p1
  obtain ⟨⟨cls2, dd2, data2, sl2⟩, ho2, hc2, n2, hd2⟩ := p2
  simp only at hc hd hc2 hd2
  subst hc hd hc2 hd2
  exact concat_meets ⟨_, ho, rfl⟩ ⟨_, ho2, rfl⟩ noFill_tuple_add seq_tuple_add PySem.F.slot_tuple_add PySem.F.entry_tuple_add (PySem.F.args_tuple_add_2 _ _)
    (tuple_addW0 a b #[] its2.toArray n n2 dd dd2 sl sl2 (by simp)) ⟨ho, ho2, .ref b, H, I, rfl, q⟩
theorem op_catQ : OpR X (binaryOp .Add) (rCatQ X.K) := by
  intro pins s z H x y v u Q I rx ry h
  obtain ⟨l, b, xs, zs, rfl, rfl, hH, hB, hz, q⟩ := h
  cases rx
  cases ry
  obtain ⟨its, r, ⟨o, n, ho, hc, hd, hdt⟩, _⟩ := I.list hH
  obtain ⟨its2, r2, ⟨o2, n2, ho2, hc2, hd2, hdt2⟩, _⟩ := I.list hB
  have e := ho
  have e2 := ho2
  have hl := r.length
  have hl2 := r2.length
  have ea : its.toArray ++ its2.toArray = (its ++ its2).toArray := by simp
  obtain ⟨cls, dd, data, sl⟩ := o
  obtain ⟨cls2, dd2, data2, sl2⟩ := o2
  simp only at hc hd hdt hc2 hd2 hdt2
  subst hc hd hdt hc2 hd2 hdt2
  refine concat_meets ⟨_, ho, rfl⟩ ⟨_, ho2, rfl⟩ noFill_list_add seq_list_add PySem.F.slot_list_add PySem.F.entry_list_add (PySem.F.args_list_add_2 _ _)
    (list_addW l b its.toArray its2.toArray n n2 none none sl sl2 (by rw [List.size_toArray, List.size_toArray]; omega)) ⟨ho, ho2, ?_⟩
  rw [ea]
  exact ⟨.ref _, _, I.lnew (t' := s.toks) (r.append r2) (by rw [List.length_append]; omega), rfl, q _ I.fresh⟩
end
end Dn

end
section
set_option Elab.async false
set_option linter.all false
set_option maxRecDepth 100000
set_option maxHeartbeats 4000000
/-! The rules: operators, comparisons, tests, arguments, displays, calls. -/
namespace Dn
open PySem PySem.Spec PyProof.Rows L2
variable [Tb]
section
variable {X : Cx}
def rAddA (K : PySem.W.Frag) : R2 := fun x y H Q => rI0 (fun i j => .int (i + j)) x y H Q ∨ (∃ i j, x = .str i ∧ y = .str j ∧ i.length + j.length ≤ sizeLine ∧ Q (.str (i ++ j)) H) ∨ rCatT K x y H Q ∨ rCatT0 K x y H Q ∨ rCatQ K x y H Q
theorem op_addA : OpR X (binaryOp .Add) (rAddA X.K) := op_add.or (op_add_str.or (op_catT.or (op_catT0.or op_catQ)))
theorem ops_add {G : Gx} : OpS G (rAddA G.K) opAdd := by
  intro M S H x y z v u Q rh rx ry h k
  have lists : ∀ {xs ys : List D}, listOf S x = some xs → listOf S y = some ys → xs.length + ys.length ≤ sizeLine → (D.lst (xs ++ ys)) = z → rCatQ G.K v u H Q := by
    intro xs ys h1 h2 hl e
    obtain ⟨p, vs, rfl, p1, p2⟩ := listOf_ok rh rx h1
    obtain ⟨q, ws, rfl, q1, q2⟩ := listOf_ok rh ry h2
    refine ⟨p, q, vs, ws, rfl, rfl, p1, q1, len_line p2 q2 hl, fun a ha => ?_⟩
    obtain ⟨M', e1, e2, e3⟩ := Ext.lstNew rh ha (p2.append q2)
    exact k M' _ _ e1 e2 (e ▸ e3)
  have gen : (match listOf S x, listOf S y with
    | some xs, some ys => if xs.length + ys.length ≤ sizeLine then some (D.lst (xs ++ ys)) else none
    | _, _ => none) = some z → rAddA G.K v u H Q := by
    intro h
    cases h1 : listOf S x with
    | none => rw [h1] at h; cases h
    | some xs =>
      cases h2 : listOf S y with
      | none => rw [h1, h2] at h; cases h
      | some ys =>
        rw [h1, h2] at h
        dsimp only at h
        split at h
        · rename_i hl
          exact .inr (.inr (.inr (.inr (lists h1 h2 hl (Option.some.inj h)))))
        · cases h
  unfold opAdd at h
  split at h
  · rename_i i j
    cases h
    cases (show _ = _ from rx)
    cases (show _ = _ from ry)
    exact .inl ⟨i, j, rfl, rfl, k M _ H Ext.refl rh rfl⟩
  · rename_i a b
    cases (show _ = _ from rx)
    cases (show _ = _ from ry)
    split at h
    · rename_i hl
      cases h
      exact .inr (.inl ⟨a, b, rfl, rfl, hl, k M _ H Ext.refl rh rfl⟩)
    · cases h
  · rename_i xs ys
    split at h
    · rename_i hl
      cases h
      obtain ⟨p, vs, rfl, p1, p2⟩ := tup_ok rh rx
      obtain ⟨q, ws, rfl, q1, q2⟩ := tup_ok rh ry
      by_cases hv : vs = []
      · subst hv
        have hx : xs = [] := by
          have := p2.len
          simpa using this
        subst hx
        exact .inr (.inr (.inr (.inl ⟨p, q, ws, rfl, rfl, p1, q1, k M _ H Ext.refl rh (by simpa using ry)⟩)))
      · refine .inr (.inr (.inl ⟨p, q, vs, ws, rfl, rfl, p1, q1, hv, len_line p2 q2 hl, fun e => ?_, fun _ a ha => ?_⟩))
        · subst e
          have hy : ys = [] := by
            have := q2.len
            simpa using this
          subst hy
          exact k M _ H Ext.refl rh (by simpa using rx)
        · obtain ⟨M', e1, e2, e3⟩ := Ext.tupNew rh ha (p2.append q2)
          exact k M' _ _ e1 e2 e3
    · cases h
  · exact gen h
/-- k * a list, whatever its object's dict and slots -/
theorem rmul_listW (a : Int) (t : Tok) (l : Addr) (vs : Array Value) (n : Nat) (dd : Option Addr) (sl : Array (Option Value)) :
    Meets (Builtin.«int.__rmul__» ⟨[.int a t, .ref l], []⟩) (fun _ R s => s.heap.get? l = some { cls := .type "list", dict := dd, data := .seq vs n, slots := sl } ∧ R (.ok (.ret Value.notImplemented)) s) :=
  .of_wp fun prog w A R s h => by
    obtain ⟨hp, g, d, tk, os⟩ := s
    obtain ⟨hl, h⟩ := h
    wp_walk using wpAny_loadPart' hl
    exact ⟨_, rfl, h⟩
theorem list_mulW (l : Addr) (vs : Array Value) (n : Nat) (dd : Option Addr) (sl : Array (Option Value)) (x : Int) (u : Tok) (f0 : ¬(!Builtin.List.listFitsIndex x) = true) (f1 : ¬vs.size * x.toNat > (2 ^ 63 - 1) / 8) (f2 : ¬Builtin.List.listTooLong (vs.size * x.toNat) = true) :
    Meets (Builtin.«list.__mul__» ⟨[.ref l, .int x u], []⟩) (fun _ R s => s.heap.get? l = some { cls := .type "list", dict := dd, data := .seq vs n, slots := sl } ∧
      R (.ok (.ret (Value.ref s.heap.objs.size))) { s with heap := s.heap.push { cls := Value.type "list", data := Data.seq (List.foldl (fun x1 x2 => x1 ++ x2) #[] (List.replicate (if vs.isEmpty = true then 0 else x.toNat) vs)) }, toks := s.toks }) :=
  .of_wp fun prog w A R s h => by
    obtain ⟨hp, g, d, tk, os⟩ := s
    obtain ⟨hl, h⟩ := h
    have hz := PySem.AutoListH.joined_fits f2
    wp_walk using wpAny_loadPart' hl
    refine wpAny_ite_false (decide_eq_false (Nat.not_lt.mpr hz)) ?_
    wp_walk using wpAny_loadPart' hl
    exact ⟨_, rfl, h⟩
def rRepR (K : PySem.W.Frag) : R2 := fun x y H Q => ∃ l k xs, x = .ref l ∧ y = .int k ∧ SqL K H l xs ∧ -(2 ^ 63) ≤ k ∧ k < 2 ^ 63 ∧ xs.length * k.toNat ≤ sizeLine ∧
  ∀ p, H p = none → Q (.ref p) (upd H p (.lst (List.replicate k.toNat xs).flatten))
theorem op_repR : OpR X (binaryOp .Mult) (rRepR X.K) := by
  intro pins s z H x y v u Q I rx ry h
  obtain ⟨l, k, xs, rfl, rfl, hH, h1, h2, hz, q⟩ := h
  cases rx
  obtain ⟨t, rfl⟩ := ry
  obtain ⟨its, r, ⟨⟨cls, dd, data, sl⟩, n, e, hc, hdn, hdt⟩, zl⟩ := I.list hH
  simp only at hc hdn hdt
  subst hc hdn hdt
  have hl := r.length
  have hlen : its.toArray.size * k.toNat ≤ sizeLine := by rw [List.size_toArray, ← hl]; exact hz
  have hcap : ¬ its.toArray.size * k.toNat > (2 ^ 63 - 1) / 8 := by
    have : (sizeLine : Nat) ≤ (2 ^ 63 - 1) / 8 := by decide
    omega
  have hfit : ¬ (!Builtin.List.listFitsIndex k) = true := by
    rw [fitsIndex_both h1 h2]
    exact Bool.false_ne_true
  have hlong : ¬ Builtin.List.listTooLong (its.toArray.size * k.toNat) = true := by
    rw [notLongL hlen]
    exact Bool.false_ne_true
  have hnew : List.foldl (fun x1 x2 => x1 ++ x2) #[] (List.replicate (if its.toArray.isEmpty = true then 0 else k.toNat) its.toArray) = (List.replicate k.toNat its).flatten.toArray := by
    have f0 : ∀ m : Nat, List.foldl (fun x1 x2 => x1 ++ x2) #[] (List.replicate m its.toArray) = (List.replicate m its).flatten.toArray := fun m => by
      have w := foldl_rep its m []
      rw [List.nil_append] at w
      exact w
    rw [f0]
    cases its with
    | nil => simp
    | cons a r' => rw [if_neg (by simp)]
  refine wpAny_binaryOp_repeat_ref (T := "list") (U := "int") (by decide) ⟨_, e, rfl⟩ (fun s' => typeIs_int s' k t) noFill_list_mul F.fills_int_mul F.slot_int_rmul repeat_list F.slot_int_index.lookup
    (call_meets F.slot_int_rmul (typeIs_int s k t) F.entry_int_rmul (F.args_int_rmul_2 _ _) (rmul_listW k t l its.toArray n none sl)
      ⟨e, rfl, ⟨_, e, rfl⟩, call_meets F.slot_list_mul ⟨_, e, rfl⟩ F.entry_list_mul (F.args_list_mul_2 _ _) (list_mulW l its.toArray n none sl k t hfit hcap hlong) ⟨e, ?_⟩⟩)
  rw [hnew]
  exact ⟨.ref _, _, I.lnew (t' := s.toks) (r.rep k.toNat) (by rw [PyProof.Rows.lm_len_rep_flat, Nat.mul_comm]; exact hz), rfl, q _ I.fresh⟩
theorem tuple_mul0 (l : Addr) (items : Array Value) (n : Nat) (dd : Option Addr) (sl : Array (Option Value)) (x : Int) (u : Tok) (c0 : (decide (x < -(2 ^ 63)) || decide (x ≥ 2 ^ 63)) = false) (c1 : (items.isEmpty || x == 1) = true) :
    Meets (Builtin.«tuple.__mul__» ⟨[.ref l, .int x u], []⟩) (fun _ R s => s.heap.get? l = some { cls := .type "tuple", dict := dd, data := .seq items n, slots := sl } ∧ R (.ok (.ret (Value.ref l))) s) :=
  .of_wp fun prog w A R s h => by
    obtain ⟨hp, g, d, tk, os⟩ := s
    obtain ⟨hl, h⟩ := h
    have f1 := AutoSeq1.idx_int
    wp_walk using AutoSeq1.wpAny_loadPart' hl
    repeat (first
      | (refine wpAny_ite_false (decide_eq_false (by rw [c0]; exact Bool.false_ne_true)) ?_; wp_walk using AutoSeq1.wpAny_loadPart' hl)
      | (refine wpAny_ite_true (decide_eq_true c1) ?_; wp_walk using AutoSeq1.wpAny_loadPart' hl))
    exact ⟨_, rfl, h⟩
/-- () * k -/
def rRepT0 (K : PySem.W.Frag) : R2 := fun x y H Q => ∃ l k, x = .ref l ∧ y = .int k ∧ SqT K H l [] ∧ 0 ≤ k ∧ k ≤ 1000 ∧ Q (.ref l) H
theorem op_repT0 : OpR X (binaryOp .Mult) (rRepT0 X.K) := by
  intro pins s σ H x y v u Q I rx ry h
  obtain ⟨l, k, rfl, rfl, hT, h1, h2, q⟩ := h
  cases rx
  obtain ⟨t, rfl⟩ := ry
  obtain ⟨its, r, ⟨⟨cls, dd, data, sl⟩, ho, hc, n, hd⟩, hs⟩ := I.tuple hT
  simp only at hc hd
  subst hc hd
  cases r
  have c0 : (decide (k < -(2 ^ 63)) || decide (k ≥ 2 ^ 63)) = false := by
    rw [decide_eq_false (by omega), decide_eq_false (by omega)] <;> rfl
  exact wpAny_binaryOp_repeat_ref (T := "tuple") (U := "int") (by decide) ⟨_, ho, rfl⟩ (fun s' => typeIs_int s' k t) noFill_tuple_mul F.fills_int_mul F.slot_int_rmul repeat_tuple F.slot_int_index.lookup
    (call_meets F.slot_int_rmul (typeIs_int s k t) F.entry_int_rmul (F.args_int_rmul_2 _ _) (int_rmul_tuple k t l _ n dd sl)
      ⟨ho, rfl, ⟨_, ho, rfl⟩, call_meets F.slot_tuple_mul ⟨_, ho, rfl⟩ F.entry_tuple_mul (F.args_tuple_mul_2 _ _) (tuple_mul0 l _ n dd sl k t c0 (by simp)) ⟨ho, ⟨.ref l, H, I, rfl, q⟩⟩⟩)
def rMulA (K : PySem.W.Frag) : R2 := fun x y H Q => (fun x y H Q => rI CMul (fun i j => .int (i * j)) x y H Q ∨ rRepR K x y H Q) x y H Q ∨ (fun x y H Q => L2.rRepT K x y H Q ∨ rRepT0 K x y H Q) x y H Q
theorem op_mulA : OpR X (binaryOp .Mult) (rMulA X.K) := (op_mul.or op_repR).or (L2.op_repT.or op_repT0)
theorem ops_mul {G : Gx} : OpS G (rMulA G.K) opMul := by
  intro M S H x y z v u Q rh rx ry h k
  unfold opMul at h
  split at h
  · rename_i i j
    split at h
    · rename_i hm
      cases h
      cases (show _ = _ from rx)
      cases (show _ = _ from ry)
      refine .inl (.inl ⟨i, j, rfl, rfl, ?_, k M _ H Ext.refl rh rfl⟩)
      unfold mulOk at hm
      simpa [CMul] using hm
    · cases h
  · rename_i xs j
    split at h
    · rename_i hc
      cases h
      cases (show _ = _ from ry)
      simp only [Bool.and_eq_true, decide_eq_true_eq, Bool.not_eq_true', List.isEmpty_eq_false_iff] at hc
      obtain ⟨⟨⟨h1, h2⟩, h3⟩, h4⟩ := hc
      obtain ⟨p, vs, rfl, q1, q2⟩ := rx
      have hq : SqT G.K H p vs := .inl (.inl (rh.tup p vs q1))
      refine .inr (.inl ⟨p, j, vs, rfl, rfl, hq, fun z => h1 ?_, h2, h3, by rw [← q2.len]; exact h4, fun a ha => ?_⟩)
      · rw [z] at q2
        have := q2.len
        exact List.length_eq_zero_iff.mp this
      · obtain ⟨M', e1, e2, e3⟩ := Ext.tupNew rh ha (q2.repl j.toNat)
        exact k M' _ _ e1 e2 e3
    · split at h
      · rename_i hc
        cases h
        cases (show _ = _ from ry)
        simp only [Bool.and_eq_true, decide_eq_true_eq, List.isEmpty_iff] at hc
        obtain ⟨⟨h1, h2⟩, h3⟩ := hc
        subst h1
        obtain ⟨p, vs, rfl, q1, q2⟩ := id rx
        cases (show vs = [] from q2)
        exact .inr (.inr ⟨p, j, rfl, rfl, .inl (.inl (rh.tup p _ q1)), h2, h3, k M _ H Ext.refl rh rx⟩)
      · cases h
  · rename_i j _ _
    cases (show _ = _ from ry)
    cases h1 : listOf S x with
    | none => rw [h1] at h; cases h
    | some xs =>
      rw [h1] at h
      dsimp only at h
      split at h
      · rename_i hl
        cases h
        obtain ⟨p, vs, rfl, p1, p2⟩ := listOf_ok rh rx h1
        simp only [Bool.and_eq_true, decide_eq_true_eq] at hl
        refine .inl ?_
        refine .inr ⟨p, j, vs, rfl, rfl, p1, hl.1.1, hl.1.2, by rw [← p2.len]; exact hl.2, fun a ha => ?_⟩
        obtain ⟨M', e1, e2, e3⟩ := Ext.lstNew rh ha (p2.repl j.toNat)
        exact k M' _ _ e1 e2 e3
      · cases h
  · cases h
theorem ops_sub {G : Gx} : OpS G (rI0 fun i j => .int (i - j)) (fun _ => opSub) := by
  intro M S H x y z v u Q rh rx ry h k
  dsimp only [opSub] at h
  split at h
  · cases h
    cases (show _ = _ from rx)
    cases (show _ = _ from ry)
    exact ⟨_, _, rfl, rfl, k M _ H Ext.refl rh rfl⟩
  · cases h
theorem ops_div {G : Gx} : OpS G (rI CDiv fun i j => .int (i / j)) (fun _ => opDiv) := by
  intro M S H x y z v u Q rh rx ry h k
  dsimp only [opDiv] at h
  split at h
  · split at h
    · rename_i hc
      cases h
      cases (show _ = _ from rx)
      cases (show _ = _ from ry)
      exact ⟨_, _, rfl, rfl, by simpa [CDiv] using hc, k M _ H Ext.refl rh rfl⟩
    · cases h
  · cases h
theorem ops_mod {G : Gx} : OpS G (rI (fun _ j => 0 < j) fun i j => .int (i % j)) (fun _ => opMod) := by
  intro M S H x y z v u Q rh rx ry h k
  dsimp only [opMod] at h
  split at h
  · split at h
    · rename_i hc
      cases h
      cases (show _ = _ from rx)
      cases (show _ = _ from ry)
      exact ⟨_, _, rfl, rfl, by simpa using hc, k M _ H Ext.refl rh rfl⟩
    · cases h
  · cases h
theorem ops_pow {G : Gx} : OpS G (rI CPow fun i j => .int (i ^ j.toNat)) (fun _ => opPow) := by
  intro M S H x y z v u Q rh rx ry h k
  dsimp only [opPow] at h
  split at h
  · split at h
    · rename_i hc
      cases h
      cases (show _ = _ from rx)
      cases (show _ = _ from ry)
      simp only [Bool.and_eq_true, decide_eq_true_eq] at hc
      exact ⟨_, _, rfl, rfl, ⟨hc.1.1, hc.1.2, hc.2⟩, k M _ H Ext.refl rh rfl⟩
    · cases h
  · cases h
/-! ### comparisons -/
def OpB (G : Gx) (r : R2) (f : Store → D → D → Option Bool) : Prop := ∀ (M : Mp) (S : Store) (H : Hp) (x y : D) (b : Bool) (v u : V) (Q : VK), RelH G M S H → RelD G M x v → RelD G M y u → f S x y = some b → Q (.bl b) H → r v u H Q
theorem dp_flat {G : Gx} {M : Mp} {S : Store} {H : Hp} (rh : RelH G M S H) {k : Nat} {x : D} {v : V} (h : D.pl k (flatL S x) = true) (r : RelD G M x v) : Dp G.K H v (flatL S x).P := by
  cases x with
  | ref l =>
    dsimp only [flatL] at h ⊢
    cases q : S[l]? with
    | none => rw [q] at h; cases k <;> simp [D.pl] at h
    | some o =>
      rw [q] at h
      cases o with
      | lst xs =>
        dsimp only at h ⊢
        obtain ⟨a, rfl, e1⟩ := r
        obtain ⟨b, e2, vs, e3, e4⟩ := rh.obj l _ q
        rw [e1] at e2; cases e2
        cases k with
        | zero => simp [D.pl] at h
        | succ k =>
          simp only [D.P]
          exact .lst (xs := vs) (.inl (.inl e3)) (RelDs.dps rh (k := k) (by simpa [D.pl] using h) e4)
      | ins _ _ => cases k <;> simp [D.pl] at h
      | dct _ _ => cases k <;> simp [D.pl] at h
  | _ => exact RelD.dp rh h r
theorem opb_eq {G : Gx} : OpB G (rEqD G.K) cmpEq := by
  intro M S H x y b v u Q rh rx ry h k
  unfold cmpEq at h
  split at h
  · rename_i hc
    simp only [Bool.and_eq_true] at hc
    cases h
    refine ⟨_, _, dp_flat rh hc.1 rx, dp_flat rh hc.2 ry, shaped_of hc.1, shaped_of hc.2, ?_⟩
    rw [eqv_of _ _ hc.1 hc.2]
    exact k
  · cases h
theorem opb_ne {G : Gx} : OpB G (rNeD G.K) cmpNe := by
  intro M S H x y b v u Q rh rx ry h k
  unfold cmpNe at h
  split at h
  · rename_i hc
    simp only [Bool.and_eq_true] at hc
    cases h
    refine ⟨_, _, dp_flat rh hc.1 rx, dp_flat rh hc.2 ry, shaped_of hc.1, shaped_of hc.2, ?_⟩
    rw [eqv_of _ _ hc.1 hc.2]
    exact k
  · cases h
theorem opb_int {G : Gx} (p : Int → Int → Bool) : OpB G (rI0 fun i j => .bl (p i j)) (fun _ => cmpI p) := by
  intro M S H x y b v u Q rh rx ry h k
  dsimp only [cmpI] at h
  split at h
  · cases h
    cases (show _ = _ from rx)
    cases (show _ = _ from ry)
    exact ⟨_, _, rfl, rfl, k⟩
  · cases h
/-- < of data that are alike -/
def rLtD (K : PySem.W.Frag) : R2 := fun x y H Q => ∃ d e, Dp K H x d ∧ Dp K H y e ∧ d.depth ≤ 64 ∧ PySem.W.alike d e = true ∧ d ≠ .none ∧ Q (.bl (PySem.W.dataLt d e)) H
theorem op_ltD (hu : X.A.units + 64 < cLine) : OpR X (compareOp .Lt) (rLtD X.K) := by
  intro pins s z H x y v u Q I rx ry h
  obtain ⟨d, e, hd, he, h1, h2, h3, q⟩ := h
  obtain ⟨as, r1⟩ := Dp.reads I d x v hd rx
  obtain ⟨bs, r2⟩ := Dp.reads I e y u he ry
  exact PySem.W.rcLt_alike d e X.A s v u as bs r1 r2 h2 h3 (by omega) X.prog X.w X.xe _ ⟨.bl _, H, I, rfl, q⟩
theorem opb_lt {G : Gx} : OpB G (rLtD G.K) (fun _ => cmpLt) := by
  intro M S H x y b v u Q rh rx ry h k
  dsimp only [cmpLt] at h
  split at h
  · rename_i hc
    cases h
    unfold ltOk at hc
    simp only [Bool.and_eq_true] at hc
    obtain ⟨⟨⟨h1, h2⟩, h3⟩, h4⟩ := hc
    refine ⟨_, _, RelD.dp rh h1 rx, RelD.dp rh h2 ry, (P_lay h1).2, h3, ?_, k⟩
    cases x <;> simp_all [D.P]
  · cases h
theorem se_cmp {op : CmpOp} {r : R2} {f : Store → D → D → Option Bool} {W : WX} {a b : Expr} {da db : DE} {pos : Pos} (ho : OpR X (compareOp op) r) (hf : OpB (gx X) r f) (ha : SE X W a da) (hb : SE X W b db) (hm : behindInMarks op b = false) :
    SE X W (.Compare a [op] [b] pos) (eCmp f da db) := by
  refine (pe_cmpR ho ha hb hm).dimp ?_
  rintro s H Q ⟨M, r, S, en, rh, p⟩
  refine ⟨M, r, S, en, rh, (bind2 en p).imp fun v H1 h => ?_⟩
  obtain ⟨M1, S1, e1, rh1, en1, p1⟩ := h
  refine ⟨M1, r, S1, en1, rh1, p1.imp fun u H2 h => ?_⟩
  obtain ⟨M2, x, y, S2, e2, rh2, en2, rd1, rd2, p2⟩ := h
  cases q : f S2 x y with
  | none => rw [q] at p2; exact p2.elim
  | some z =>
    rw [q] at p2
    exact hf M2 S2 H2 x y z v u Q rh2 rd1 rd2 q (p2 M2 _ H2 Ext.refl rh2 rfl)
/-- x is None, x is not None -/
theorem se_isN {W : WX} {a : Expr} {da : DE} {pos pos' : Pos} {j} (ha : SE X W a da) : SE X W (.Compare a [.Is] [.Constant .none j pos'] pos) (eCmp1 cmpIsN da) := by
  refine (pe_cmp (pc_isN ha) rfl).dimp ?_
  rintro s H Q ⟨M, r, S, en, rh, p⟩
  refine ⟨M, r, S, en, rh, p.bind.imp fun v H1 h => ?_⟩
  obtain ⟨M1, x, S1, e1, rh1, rd1, p1⟩ := h
  have e : ((cmpIsN x).map D.bl) = some (D.bl (decide (v = .non))) := by
    cases x with
    | non => cases (show _ = _ from rd1); rfl
    | bl _ => cases (show _ = _ from rd1); rfl
    | int _ => cases (show _ = _ from rd1); rfl
    | str _ => cases (show _ = _ from rd1); rfl
    | tup _ => obtain ⟨_, _, rfl, _⟩ := rd1; rfl
    | lst _ => obtain ⟨_, _, rfl, _⟩ := rd1; rfl
    | ref _ => obtain ⟨_, rfl, _⟩ := rd1; rfl
    | cls _ => obtain ⟨_, rfl, _⟩ := rd1; rfl
    | fn _ => obtain ⟨_, rfl, _⟩ := rd1; rfl
  rw [e] at p1
  exact p1 M1 _ H1 Ext.refl rh1 rfl
theorem se_notN {W : WX} {a : Expr} {da : DE} {pos pos' : Pos} {j} (ha : SE X W a da) : SE X W (.Compare a [.IsNot] [.Constant .none j pos'] pos) (eCmp1 (fun x => (cmpIsN x).map (!·)) da) := by
  refine (pe_cmp (pc_notN ha) rfl).dimp ?_
  rintro s H Q ⟨M, r, S, en, rh, p⟩
  refine ⟨M, r, S, en, rh, p.bind.imp fun v H1 h => ?_⟩
  obtain ⟨M1, x, S1, e1, rh1, rd1, p1⟩ := h
  have e : (((cmpIsN x).map (!·)).map D.bl) = some (D.bl (!decide (v = .non))) := by
    cases x with
    | non => cases (show _ = _ from rd1); rfl
    | bl _ => cases (show _ = _ from rd1); rfl
    | int _ => cases (show _ = _ from rd1); rfl
    | str _ => cases (show _ = _ from rd1); rfl
    | tup _ => obtain ⟨_, _, rfl, _⟩ := rd1; rfl
    | lst _ => obtain ⟨_, _, rfl, _⟩ := rd1; rfl
    | ref _ => obtain ⟨_, rfl, _⟩ := rd1; rfl
    | cls _ => obtain ⟨_, rfl, _⟩ := rd1; rfl
    | fn _ => obtain ⟨_, rfl, _⟩ := rd1; rfl
  rw [e] at p1
  exact p1 M1 _ H1 Ext.refl rh1 rfl
/-- a chain of two comparisons -/
theorem chain_t {G : Gx} {r r' : R2} {f g : Store → D → D → Option Bool} {W : WX} {da db dc : DE} {s : L2.St} {H : Hp} {Q : VK} (hf : OpB G r f) (hg : OpB G r' g) (h : tE G W (eChain f g da db dc) s H Q) : tChain r r' (tE G W da) (tE G W db) (tE G W dc) s H Q := by
  obtain ⟨M, r, S, en, rh, p⟩ := h
  refine ⟨M, r, S, en, rh, (bind2 en p).imp fun v H1 h => ?_⟩
  obtain ⟨M1, S1, e1, rh1, en1, p1⟩ := h
  refine ⟨M1, r, S1, en1, rh1, p1.imp fun u H2 h => ?_⟩
  obtain ⟨M2, x, y, S2, e2, rh2, en2, rd1, rd2, p2⟩ := h
  cases q : f S2 x y with
  | none => rw [q] at p2; exact p2.elim
  | some z =>
    rw [q] at p2
    refine hf M2 S2 H2 x y z v u _ rh2 rd1 rd2 q ⟨z, rfl, ?_⟩
    cases z with
    | false => exact p2 M2 _ H2 Ext.refl rh2 rfl
    | true =>
      refine ⟨M2, r, S2, en2, rh2, (Post.bind (R := RD G) p2).imp fun w H3 h => ?_⟩
      obtain ⟨M3, zz, S3, e3, rh3, rd3, p3⟩ := h
      cases q3 : g S3 y zz with
      | none => rw [q3] at p3; exact p3.elim
      | some z3 =>
        rw [q3] at p3
        exact hg M3 S3 H3 y zz z3 u w Q rh3 (rd2.mono e3) rd3 q3 (p3 M3 _ H3 Ext.refl rh3 rfl)
/-! ### tests -/
variable {W : WX} {a b c e : Expr} {da db dc : DE} {ta tb : DT} {pos : Pos} {es : List Expr}
theorem se_chain {op op' : CmpOp} {r r' : R2} {f g : Store → D → D → Option Bool} {W : WX} {a b c : Expr} {da db dc : DE} {pos : Pos} (hf : OpB (gx X) r f) (hg : OpB (gx X) r' g)
    (hm : PE X (.Compare a [op, op'] [b, c] pos) (tChain r r' (tE (gx X) W da) (tE (gx X) W db) (tE (gx X) W dc))) :
    SE X W (.Compare a [op, op'] [b, c] pos) (eChain f g da db dc) := hm.dimp fun _ _ _ => chain_t hf hg
theorem st_val (h : SE X W a da) (he : ∀ whole, isTrue a X.env whole = (do let v ← whole; standAt a.pos; holding [v] (truthy v))) : ST X W a (tOfB da) := by
  refine (pt_val h he).dimp ?_
  rintro s H Q ⟨M, r, S, en, rh, p⟩
  refine ⟨M, r, S, en, rh, p.bind.imp fun v H1 h => ?_⟩
  obtain ⟨M1, x, S1, e1, rh1, rd1, p1⟩ := h
  cases x with
  | bl b =>
    cases (show _ = _ from rd1)
    exact ⟨b, rfl, p1 M1 b H1 Ext.refl rh1 rfl⟩
  | _ => exact p1.elim
/-- a comparison as a test -/
theorem st_cmp {op : CmpOp} {r : R2} {f : Store → D → D → Option Bool} (ho : OpR X (compareOp op) r) (hf : OpB (gx X) r f) (ha : SE X W a da) (hb : SE X W b db) (hm : behindInMarks op b = false) : ST X W (.Compare a [op] [b] pos) (tOfB (eCmp f da db)) := by
  refine (pt_cmpR ho ha hb hm).dimp ?_
  rintro s H Q ⟨M, r, S, en, rh, p⟩
  have p' : Post (gx X) RB W M H s ((da r S).bind fun x S => (db r S).bind fun y S => Rs.ofO (f S x y) S) Q := by
    have e : tOfB (eCmp f da db) r S = ((da r S).bind fun x S => (db r S).bind fun y S => Rs.ofO (f S x y) S) := by
      unfold tOfB eCmp
      cases da r S with
      | ok x S1 =>
        dsimp only [Rs.bind]
        cases db r S1 with
        | ok y S2 =>
          dsimp only [Rs.bind]
          cases f S2 x y <;> rfl
        | exc _ _ _ => rfl
        | bad => rfl
      | exc _ _ _ => rfl
      | bad => rfl
    rw [← e]
    exact p
  refine ⟨M, r, S, en, rh, (bind2 en p').imp fun v H1 h => ?_⟩
  obtain ⟨M1, S1, e1, rh1, en1, p1⟩ := h
  refine ⟨M1, r, S1, en1, rh1, p1.imp fun u H2 h => ?_⟩
  obtain ⟨M2, x, y, S2, e2, rh2, en2, rd1, rd2, p2⟩ := h
  cases q : f S2 x y with
  | none => rw [q] at p2; exact p2.elim
  | some z =>
    rw [q] at p2
    exact hf M2 S2 H2 x y z v u _ rh2 rd1 rd2 q ⟨z, rfl, p2 M2 z H2 Ext.refl rh2 rfl⟩
theorem st_isN {pos' : Pos} {j} (ha : SE X W a da) : ST X W (.Compare a [.Is] [.Constant .none j pos'] pos) (tOfB (eCmp1 cmpIsN da)) := by
  refine (pt_cmp (pc_isN ha) rfl).dimp ?_
  rintro s H Q ⟨M, r, S, en, rh, p⟩
  have e : tOfB (eCmp1 cmpIsN da) r S = ((da r S).bind fun x S => Rs.ofO (cmpIsN x) S) := by
    unfold tOfB eCmp1
    cases da r S with
    | ok x S1 => dsimp only [Rs.bind]; cases cmpIsN x <;> rfl
    | exc _ _ _ => rfl
    | bad => rfl
  rw [e] at p
  refine ⟨M, r, S, en, rh, p.bind.imp fun v H1 h => ?_⟩
  obtain ⟨M1, x, S1, e1, rh1, rd1, p1⟩ := h
  have e : cmpIsN x = some (decide (v = .non)) := by
    cases x with
    | non => cases (show _ = _ from rd1); rfl
    | bl _ => cases (show _ = _ from rd1); rfl
    | int _ => cases (show _ = _ from rd1); rfl
    | str _ => cases (show _ = _ from rd1); rfl
    | tup _ => obtain ⟨_, _, rfl, _⟩ := rd1; rfl
    | lst _ => obtain ⟨_, _, rfl, _⟩ := rd1; rfl
    | ref _ => obtain ⟨_, rfl, _⟩ := rd1; rfl
    | cls _ => obtain ⟨_, rfl, _⟩ := rd1; rfl
    | fn _ => obtain ⟨_, rfl, _⟩ := rd1; rfl
  rw [e] at p1
  exact ⟨_, rfl, p1 M1 _ H1 Ext.refl rh1 rfl⟩
theorem st_notN {pos' : Pos} {j} (ha : SE X W a da) : ST X W (.Compare a [.IsNot] [.Constant .none j pos'] pos) (tOfB (eCmp1 (fun x => (cmpIsN x).map (!·)) da)) := by
  refine (pt_cmp (pc_notN ha) rfl).dimp ?_
  rintro s H Q ⟨M, r, S, en, rh, p⟩
  have e : tOfB (eCmp1 (fun x => (cmpIsN x).map (!·)) da) r S = ((da r S).bind fun x S => Rs.ofO ((cmpIsN x).map (!·)) S) := by
    unfold tOfB eCmp1
    cases da r S with
    | ok x S1 => dsimp only [Rs.bind]; cases cmpIsN x <;> rfl
    | exc _ _ _ => rfl
    | bad => rfl
  rw [e] at p
  refine ⟨M, r, S, en, rh, p.bind.imp fun v H1 h => ?_⟩
  obtain ⟨M1, x, S1, e1, rh1, rd1, p1⟩ := h
  have e : (cmpIsN x).map (!·) = some (!decide (v = .non)) := by
    cases x with
    | non => cases (show _ = _ from rd1); rfl
    | bl _ => cases (show _ = _ from rd1); rfl
    | int _ => cases (show _ = _ from rd1); rfl
    | str _ => cases (show _ = _ from rd1); rfl
    | tup _ => obtain ⟨_, _, rfl, _⟩ := rd1; rfl
    | lst _ => obtain ⟨_, _, rfl, _⟩ := rd1; rfl
    | ref _ => obtain ⟨_, rfl, _⟩ := rd1; rfl
    | cls _ => obtain ⟨_, rfl, _⟩ := rd1; rfl
    | fn _ => obtain ⟨_, rfl, _⟩ := rd1; rfl
  rw [e] at p1
  exact ⟨_, rfl, p1 M1 _ H1 Ext.refl rh1 rfl⟩
theorem st_not (ha : ST X W a ta) : ST X W (.UnaryOp .Not a pos) (tNotD ta) := by
  refine (pt_not ha).dimp ?_
  rintro s H Q ⟨M, r, S, en, rh, p⟩
  refine ⟨M, r, S, en, rh, p.bind.imp fun v H1 h => ?_⟩
  obtain ⟨M1, x, S1, e1, rh1, rd1, p1⟩ := h
  cases rd1
  exact p1 M1 _ H1 Ext.refl rh1 rfl
/-- and, or: PW -/
abbrev SW (X : Cx) (W : WX) (e : Expr) (d : DT) : Prop := PW X e (tT (gx X) W d)
theorem L2PW_dimp {t t' : TT} (h : PW X e t) (k : ∀ s H Q, t' s H Q → t s H Q) : PW X e t' := ⟨fun w pins st s H Q I q => h.run w pins st s H Q I (k s H Q q)⟩
theorem sw_and1 (ha : ST X W a ta) : SW X W (.BoolOp .And [a] pos) ta := pw_and1 ha
theorem sw_or1 (ha : ST X W a ta) : SW X W (.BoolOp .Or [a] pos) ta := pw_or1 ha
theorem sw_and {rest : List Expr} (ha : ST X W a ta) (hb : SW X W (.BoolOp .And (b :: rest) pos) tb) : SW X W (.BoolOp .And (a :: b :: rest) pos) (tAndD ta tb) := by
  refine L2PW_dimp (pw_and ha hb) ?_
  rintro s H Q ⟨M, r, S, en, rh, p⟩
  refine ⟨M, r, S, en, rh, p.bind.imp fun v H1 h => ?_⟩
  obtain ⟨M1, x, S1, e1, rh1, rd1, p1⟩ := h
  obtain rfl : x = v := rd1
  cases x with
  | true => exact ⟨M1, r, S1, en.mono e1, rh1, p1⟩
  | false => exact p1 M1 _ H1 Ext.refl rh1 rfl
theorem sw_or {rest : List Expr} (ha : ST X W a ta) (hb : SW X W (.BoolOp .Or (b :: rest) pos) tb) : SW X W (.BoolOp .Or (a :: b :: rest) pos) (tOrD ta tb) := by
  refine L2PW_dimp (pw_or ha hb) ?_
  rintro s H Q ⟨M, r, S, en, rh, p⟩
  refine ⟨M, r, S, en, rh, p.bind.imp fun v H1 h => ?_⟩
  obtain ⟨M1, x, S1, e1, rh1, rd1, p1⟩ := h
  obtain rfl : x = v := rd1
  cases x with
  | true => exact p1 M1 _ H1 Ext.refl rh1 rfl
  | false => exact ⟨M1, r, S1, en.mono e1, rh1, p1⟩
theorem st_w (h : SW X W e ta) : ST X W e ta := h.pt
/-! ### and, or, not as values; a if t else b -/
theorem se_one {op} (h : SE X W a da) : SE X W (.BoolOp op [a] pos) da := pe_one h
theorem se_and {rest : List Expr} (ha : SE X W a da) (hb : SE X W (.BoolOp .And (b :: rest) pos) db) : SE X W (.BoolOp .And (a :: b :: rest) pos) (eAnd da db) := by
  refine (pe_and ha hb).dimp ?_
  rintro s H Q ⟨M, r, S, en, rh, p⟩
  refine ⟨M, r, S, en, rh, p.bind.imp fun v H1 h => ?_⟩
  obtain ⟨M1, x, S1, e1, rh1, rd1, p1⟩ := h
  cases x with
  | bl c =>
    cases (show _ = _ from rd1)
    refine ⟨c, rfl, ?_⟩
    cases c with
    | true => exact ⟨M1, r, S1, en.mono e1, rh1, p1⟩
    | false => exact p1 M1 _ H1 Ext.refl rh1 rfl
  | _ => exact p1.elim
theorem se_or {rest : List Expr} (ha : SE X W a da) (hb : SE X W (.BoolOp .Or (b :: rest) pos) db) : SE X W (.BoolOp .Or (a :: b :: rest) pos) (eOr da db) := by
  refine (pe_or ha hb).dimp ?_
  rintro s H Q ⟨M, r, S, en, rh, p⟩
  refine ⟨M, r, S, en, rh, p.bind.imp fun v H1 h => ?_⟩
  obtain ⟨M1, x, S1, e1, rh1, rd1, p1⟩ := h
  cases x with
  | bl c =>
    cases (show _ = _ from rd1)
    refine ⟨c, rfl, ?_⟩
    cases c with
    | false => exact ⟨M1, r, S1, en.mono e1, rh1, p1⟩
    | true => exact p1 M1 _ H1 Ext.refl rh1 rfl
  | _ => exact p1.elim
theorem se_not (ha : SE X W a da) : SE X W (.UnaryOp .Not a pos) (eNot da) := by
  refine (pe_not ha).dimp ?_
  rintro s H Q ⟨M, r, S, en, rh, p⟩
  refine ⟨M, r, S, en, rh, p.bind.imp fun v H1 h => ?_⟩
  obtain ⟨M1, x, S1, e1, rh1, rd1, p1⟩ := h
  cases x with
  | bl c =>
    cases (show _ = _ from rd1)
    exact ⟨c, rfl, p1 M1 _ H1 Ext.refl rh1 rfl⟩
  | _ => exact p1.elim
theorem se_neg (ha : SE X W a da) : SE X W (.UnaryOp .USub a pos) (eUn opNeg da) := by
  refine (pe_un un_neg ha).dimp ?_
  rintro s H Q ⟨M, r, S, en, rh, p⟩
  refine ⟨M, r, S, en, rh, p.bind.imp fun v H1 h => ?_⟩
  obtain ⟨M1, x, S1, e1, rh1, rd1, p1⟩ := h
  cases x with
  | int c =>
    cases (show _ = _ from rd1)
    exact ⟨c, rfl, p1 M1 _ H1 Ext.refl rh1 rfl⟩
  | _ => exact p1.elim
theorem se_if (hc : ST X W c ta) (ha : SE X W a da) (hb : SE X W b db) : SE X W (.IfExp c a b pos) (eIf ta da db) := by
  refine (pe_ifExp hc ha hb).dimp ?_
  rintro s H Q ⟨M, r, S, en, rh, p⟩
  refine ⟨M, r, S, en, rh, p.bind.imp fun v H1 h => ?_⟩
  obtain ⟨M1, x, S1, e1, rh1, rd1, p1⟩ := h
  obtain rfl : x = v := rd1
  cases x with
  | true => exact ⟨M1, r, S1, en.mono e1, rh1, p1⟩
  | false => exact ⟨M1, r, S1, en.mono e1, rh1, p1⟩
/-! ### arguments, displays -/
variable {ds : DA}
theorem sa_nil : SA X W [] aNil := by
  refine pa_nil.dimp ?_
  rintro s H Q ⟨M, r, S, en, rh, p⟩
  exact p M [] H Ext.refl rh rfl
theorem sa_cons (ha : SE X W e da) (hb : SA X W es ds) (hs : starEach (e :: es) X.env = (false, eval e X.env) :: starEach es X.env := by rfl) : SA X W (e :: es) (aCons da ds) := by
  refine (pa_cons ha hb hs).dimp ?_
  rintro s H Q ⟨M, r, S, en, rh, p⟩
  refine ⟨M, r, S, en, rh, p.bind.imp fun v H1 h => ?_⟩
  obtain ⟨M1, x, S1, e1, rh1, rd1, p1⟩ := h
  refine ⟨M1, r, S1, en.mono e1, rh1, (Post.bind (R := RA (gx X)) p1).imp fun vs H2 h => ?_⟩
  obtain ⟨M2, xs, S2, e2, rh2, rd2, p2⟩ := h
  exact p2 M2 _ H2 Ext.refl rh2 (RelDs.cons (rd1.mono e2) rd2)
theorem se_tup {k} (h : SA X W es ds) : SE X W (.Tuple es k pos) (eTup ds) := by
  refine (pe_tup h).dimp ?_
  rintro s H Q ⟨M, r, S, en, rh, p⟩
  refine ⟨M, r, S, en, rh, p.bind.imp fun vs H1 h => ?_⟩
  obtain ⟨M1, xs, S1, e1, rh1, rd1, p1⟩ := h
  split at p1
  · rename_i hl
    refine ⟨by rw [← rd1.len]; exact hl, fun q hq => ?_⟩
    obtain ⟨M', x1, x2, x3⟩ := Ext.tupNew rh1 hq rd1
    exact p1 M' _ _ x1 x2 x3
  · exact p1.elim
theorem se_lst (h : SA X W es ds) : SE X W (.List es pos) (eLst ds) := by
  refine (pe_lst h).dimp ?_
  rintro s H Q ⟨M, r, S, en, rh, p⟩
  refine ⟨M, r, S, en, rh, p.bind.imp fun vs H1 h => ?_⟩
  obtain ⟨M1, xs, S1, e1, rh1, rd1, p1⟩ := h
  split at p1
  · rename_i hl
    refine ⟨by rw [← rd1.len]; exact hl, fun q hq => ?_⟩
    obtain ⟨M', x1, x2, x3⟩ := Ext.lstNew rh1 hq rd1
    exact p1 M' _ _ x1 x2 x3
  · exact p1.elim
end
end Dn

end
section
set_option Elab.async false
set_option linter.all false
set_option maxRecDepth 100000
set_option maxHeartbeats 4000000
/-! The rules: lists and tuples as they stand; built-ins. -/
namespace Dn
open PySem PySem.Spec PyProof.Rows L2
variable [Tb]
/-- what stands at p -/
def SqR (G : Gx) (t : Bool) (H : Hp) (p : Addr) (vs : List V) : Prop := if t then SqT G.K H p vs else SqL G.K H p vs
theorem src_ok {G : Gx} {M : Mp} {S : Store} {H : Hp} {r : Rho} {s : L2.St} {c : Src} {v : V} {xs : List D} (rh : RelH G M S H) (en : EnvR G M H r s) (h : RSrc G s M H c v) (g : c.get r S = some xs) :
    ∃ p vs, v = .ref p ∧ SqR G c.isT H p vs ∧ RelDs G M xs vs := by
  cases c with
  | cst t ys =>
    have e : ys = xs := Option.some.inj g
    subst e
    cases t with
    | true =>
      obtain ⟨p, vs, rfl, h1, h2⟩ := tup_ok rh h
      exact ⟨p, vs, rfl, h1, h2⟩
    | false =>
      obtain ⟨p, vs, rfl, h1, h2⟩ := h
      exact ⟨p, vs, rfl, rh.sq h1, h2⟩
  | own i =>
    obtain ⟨a, rfl, h1⟩ := h
    dsimp only [Src.get] at g
    cases q : r[i]? with
    | none => rw [q] at g; cases g
    | some z =>
      rw [q] at g
      cases z with
      | own ys =>
        have e : ys = xs := Option.some.inj g
        subst e
        obtain ⟨v, e1, e2⟩ := en.sl i _ q
        rw [h1] at e1
        cases e1
        obtain ⟨b, vs, e3, e4, e5, _, _⟩ := e2
        cases e3
        exact ⟨a, vs, rfl, .inl (.inl e4), e5⟩
      | un => cases g
      | val _ => cases g
      | ownd _ _ => cases g
      | exc _ _ => cases g
      | lam => cases g
  | loc l =>
    obtain ⟨a, rfl, h1⟩ := h
    dsimp only [Src.get] at g
    cases q : S[l]? with
    | none => rw [q] at g; cases g
    | some z =>
      rw [q] at g
      cases z with
      | lst ys =>
        have e : ys = xs := Option.some.inj g
        subst e
        obtain ⟨b, e1, vs, e2, e3⟩ := rh.obj l _ q
        rw [h1] at e1; cases e1
        exact ⟨a, vs, rfl, .inl (.inl e2), e3⟩
      | ins _ _ => cases g
      | dct _ _ => cases g
theorem RSrc.mono {G : Gx} {M M' : Mp} {H H' : Hp} {s : L2.St} (e : Ext M H M' H') {c : Src} {v : V} (h : RSrc G s M H c v) : RSrc G s M' H' c v := by
  cases c with
  | cst t ys => cases t <;> exact RelD.mono e h
  | own i => exact h
  | loc l => exact RelD.mono (G := G) (d := .ref l) e h
section
variable {X : Cx} {W : WX} {a b c e : Expr} {da db dc : DE} {dl : DL} {pos : Pos}
theorem sl_e (h : SE X W a da) : SL X W a (lE da) := by
  refine h.dimp ?_
  rintro s H Q ⟨M, r, S, en, rh, p⟩
  refine ⟨M, r, S, en, rh, p.bind.imp fun v H1 h => ?_⟩
  obtain ⟨M1, x, S1, e1, rh1, rd1, p1⟩ := h
  cases q : srcOf S1 x with
  | none => rw [q] at p1; exact p1.elim
  | some c =>
    rw [q] at p1
    refine p1 M1 v H1 Ext.refl rh1 ?_
    cases x with
    | tup xs => cases q; exact rd1
    | lst xs => cases q; exact rd1
    | ref l =>
      dsimp only [srcOf] at q
      split at q
      · cases q; exact rd1
      · cases q
    | _ => cases q
theorem sl_own {i : Nat} {x : Str} (hN : X.N[i]? = some x) (hv : Vis X.env.scope x) (hd : (x == ("__debug__" : Str)) = false := by decide) (hcd : (x == ("__classdict__" : Str)) = false := by decide) : SL X W (.Name x pos) (lOwn i) := by
  refine (pe_var (i := i) hN hv hd hcd).dimp ?_
  rintro s H Q ⟨M, r, S, en, rh, p⟩
  unfold lOwn at p
  cases q : r[i]? with
  | none => rw [q] at p; exact p.elim
  | some z =>
    rw [q] at p
    obtain ⟨v, h1, h2⟩ := en.sl i z q
    cases z with
    | own d =>
      obtain ⟨a, vs, rfl, h3⟩ := h2
      exact ⟨.ref a, h1, p M _ H Ext.refl rh ⟨a, rfl, h1⟩⟩
    | un => exact p.elim
    | val _ => exact p.elim
    | ownd _ _ => exact p.elim
    | exc _ _ => exact p.elim
    | lam => exact p.elim
/-- a built-in of one list or tuple -/
def L1 (G : Gx) (r : List V → Hp → VK → Prop) (f : Bool → List D → Option D) : Prop := ∀ (M : Mp) (S : Store) (H : Hp) (t : Bool) (xs : List D) (p : Addr) (vs : List V) (z : D) (Q : VK), RelH G M S H → SqR G t H p vs → RelDs G M xs vs → f t xs = some z →
  (∀ M' w H', Ext M H M' H' → RelH G M' S H' → RelD G M' z w → Q w H') → r [.ref p] H Q
theorem se_l1 {r : List V → Hp → VK → Prop} {f : Bool → List D → Option D} (hf : L1 (gx X) r f) (hc : PE X e (tCB r (tCons (tL (gx X) W dl) tNil))) : SE X W e (eL1 f dl) := by
  refine hc.dimp ?_
  rintro s H Q ⟨M, r, S, en, rh, p⟩
  refine ⟨M, r, S, en, rh, (Post.bind (R := RSrc (gx X) s) p).imp fun v H1 h => ?_⟩
  obtain ⟨M1, c, S1, e1, rh1, rd1, p1⟩ := h
  cases q : c.get r S1 with
  | none => rw [q] at p1; exact p1.elim
  | some xs =>
    rw [q] at p1
    obtain ⟨p, vs, rfl, h1, h2⟩ := src_ok rh1 (en.mono e1) rd1 q
    cases q2 : f c.isT xs with
    | none =>
      have p1 : Post (gx X) (RD (gx X)) W M1 H1 s (Rs.ofO (f c.isT xs) S1) Q := p1
      rw [q2] at p1; exact p1.elim
    | some z =>
      have p1 : Post (gx X) (RD (gx X)) W M1 H1 s (Rs.ofO (f c.isT xs) S1) Q := p1
      rw [q2] at p1
      exact hf M1 S1 H1 c.isT xs p vs z Q rh1 h1 h2 q2 p1
theorem sq_or {G : Gx} {t : Bool} {H : Hp} {p : Addr} {vs : List V} (h : SqR G t H p vs) : SqL G.K H p vs ∨ SqT G.K H p vs := by
  cases t with
  | true => exact .inr h
  | false => exact .inl h
theorem l1_len {G : Gx} : L1 G (fun xs H Q => ∃ p ys, xs = [.ref p] ∧ (SqL G.K H p ys ∨ SqT G.K H p ys) ∧ Q (.int ys.length) H) (fun _ xs => some (.int xs.length)) := by
  intro M S H t xs p vs z Q rh h1 h2 hz k
  cases hz
  refine ⟨p, vs, rfl, sq_or h1, k M _ H Ext.refl rh ?_⟩
  rw [h2.len]
  rfl
/-- tuple(xs): of a tuple it is the tuple itself -/
theorem se_tupOf (hc : PE X e (tCB (fun xs H Q => ∃ p ys, xs = [.ref p] ∧ ((SqL X.K H p ys ∧ ∀ l, H l = none → Q (.ref l) (upd H l (.tup ys))) ∨ (SqT X.K H p ys ∧ Q (.ref p) H))) (tCons (tL (gx X) W dl) tNil))) : SE X W e (eTupOf dl) := by
  refine hc.dimp ?_
  rintro s H Q ⟨M, r, S, en, rh, p⟩
  refine ⟨M, r, S, en, rh, (Post.bind (R := RSrc (gx X) s) p).imp fun v H1 h => ?_⟩
  obtain ⟨M1, c, S1, e1, rh1, rd1, p1⟩ := h
  cases q : c.get r S1 with
  | none => rw [q] at p1; exact p1.elim
  | some xs =>
    rw [q] at p1
    have p1 : Post (gx X) (RD (gx X)) W M1 H1 s (.ok (.tup xs) S1) Q := p1
    obtain ⟨p, vs, rfl, h1, h2⟩ := src_ok rh1 (en.mono e1) rd1 q
    refine ⟨p, vs, rfl, ?_⟩
    have new : SqL X.K H1 p vs → (SqL X.K H1 p vs ∧ ∀ l, H1 l = none → Q (.ref l) (upd H1 l (.tup vs))) := fun h => ⟨h, fun l hl => by
      obtain ⟨M', x1, x2, x3⟩ := Ext.tupNew rh1 hl h2
      exact p1 M' _ _ x1 x2 x3⟩
    cases c with
    | cst t ys =>
      cases t with
      | true =>
        have e : ys = xs := Option.some.inj q
        subst e
        exact .inr ⟨h1, p1 M1 _ H1 Ext.refl rh1 rd1⟩
      | false => exact .inl (new h1)
    | own i => exact .inl (new h1)
    | loc l => exact .inl (new h1)
theorem l1_lst {G : Gx} : L1 G (fun xs H Q => ∃ p ys, xs = [.ref p] ∧ (SqL G.K H p ys ∨ SqT G.K H p ys) ∧ ∀ l, H l = none → Q (.ref l) (upd H l (.lst ys))) (fun _ xs => some (.lst xs)) := by
  intro M S H t xs p vs z Q rh h1 h2 hz k
  cases hz
  refine ⟨p, vs, rfl, sq_or h1, fun l hl => ?_⟩
  obtain ⟨M', e1, e2, e3⟩ := Ext.lstNew rh hl h2
  exact k M' _ _ e1 e2 e3
theorem bools_ok {G : Gx} {M : Mp} : ∀ {xs : List D} {vs : List V} {bs : List Bool}, RelDs G M xs vs → boolsOf xs = some bs → vs = bs.map V.bl
  | [], _, _, h, e => by cases e; exact h
  | .bl b :: xs, _, bs, h, e => by
    obtain ⟨v, r, rfl, h1, h2⟩ := h
    dsimp only [boolsOf] at e
    cases q : boolsOf xs with
    | none => rw [q] at e; cases e
    | some cs =>
      rw [q] at e
      cases e
      cases (show _ = _ from h1)
      rw [bools_ok h2 q]
      rfl
  | .non :: _, _, _, _, e => by cases e
  | .int _ :: _, _, _, _, e => by cases e
  | .str _ :: _, _, _, _, e => by cases e
  | .tup _ :: _, _, _, _, e => by cases e
  | .lst _ :: _, _, _, _, e => by cases e
  | .ref _ :: _, _, _, _, e => by cases e
  | .cls _ :: _, _, _, _, e => by cases e
  | .fn _ :: _, _, _, _, e => by cases e
theorem ints_ok {G : Gx} {M : Mp} : ∀ {xs : List D} {vs : List V} {ns : List Int}, RelDs G M xs vs → intsOf xs = some ns → vs = ns.map V.int
  | [], _, _, h, e => by cases e; exact h
  | .int b :: xs, _, bs, h, e => by
    obtain ⟨v, r, rfl, h1, h2⟩ := h
    dsimp only [intsOf] at e
    cases q : intsOf xs with
    | none => rw [q] at e; cases e
    | some cs =>
      rw [q] at e
      cases e
      cases (show _ = _ from h1)
      rw [ints_ok h2 q]
      rfl
  | .non :: _, _, _, _, e => by cases e
  | .bl _ :: _, _, _, _, e => by cases e
  | .str _ :: _, _, _, _, e => by cases e
  | .tup _ :: _, _, _, _, e => by cases e
  | .lst _ :: _, _, _, _, e => by cases e
  | .ref _ :: _, _, _, _, e => by cases e
  | .cls _ :: _, _, _, _, e => by cases e
  | .fn _ :: _, _, _, _, e => by cases e
theorem l1_all {G : Gx} : L1 G (rAll G.K) (fun t xs => if t then none else (boolsOf xs).map fun bs => .bl (bs.all id)) := by
  intro M S H t xs p vs z Q rh h1 h2 hz k
  cases t with
  | true => cases hz
  | false =>
    dsimp only at hz
    cases q : boolsOf xs with
    | none => rw [q] at hz; cases hz
    | some bs =>
      rw [q] at hz
      cases hz
      exact ⟨p, bs, rfl, by rw [← bools_ok h2 q]; exact h1, k M _ H Ext.refl rh rfl⟩
theorem l1_any {G : Gx} : L1 G (rAny G.K) (fun t xs => if t then none else (boolsOf xs).map fun bs => .bl (bs.any id)) := by
  intro M S H t xs p vs z Q rh h1 h2 hz k
  cases t with
  | true => cases hz
  | false =>
    dsimp only at hz
    cases q : boolsOf xs with
    | none => rw [q] at hz; cases hz
    | some bs =>
      rw [q] at hz
      cases hz
      exact ⟨p, bs, rfl, by rw [← bools_ok h2 q]; exact h1, k M _ H Ext.refl rh rfl⟩
theorem l1_sum {G : Gx} : L1 G (rSum G.K) (fun t xs => if t then none else (intsOf xs).map fun ns => .int ns.sum) := by
  intro M S H t xs p vs z Q rh h1 h2 hz k
  cases t with
  | true => cases hz
  | false =>
    dsimp only at hz
    cases q : intsOf xs with
    | none => rw [q] at hz; cases hz
    | some bs =>
      rw [q] at hz
      cases hz
      exact ⟨p, bs, rfl, by rw [← ints_ok h2 q]; exact h1, k M _ H Ext.refl rh rfl⟩
/-! ### sorted -/
/-- a machine's value is this one -/
def VD (G : Gx) (M : Mp) (u : Value) (d : D) : Prop := ∃ v, RelV v u ∧ RelD G M d v
theorem each_of {G : Gx} {M : Mp} : ∀ {ds : List D} {vs : List V} {us : List Value}, RelDs G M ds vs → Vals vs us → PySem.W.EachIs (VD G M) us ds
  | [], _, _, h, r => by
    cases (show _ = _ from h)
    cases r
    exact .nil
  | d :: ds, _, _, h, r => by
    obtain ⟨v, vs, rfl, h1, h2⟩ := h
    cases r with
    | cons r1 r2 => exact .cons ⟨v, r1, h1⟩ (each_of h2 r2)
theorem of_each {G : Gx} {M : Mp} : ∀ {ds : List D} {us : List Value}, PySem.W.EachIs (VD G M) us ds → ∃ vs, RelDs G M ds vs ∧ Vals vs us
  | _, _, .nil => ⟨[], rfl, .nil⟩
  | _, _, .cons ⟨v, r, h⟩ t => by
    obtain ⟨vs, h1, h2⟩ := of_each t
    exact ⟨v :: vs, RelDs.cons h h1, .cons r h2⟩
theorem each_imp {a b : Type} {R R' : a → b → Prop} : ∀ {us : List a} {ds : List b}, PySem.W.EachIs R us ds → (∀ u d, d ∈ ds → R u d → R' u d) → PySem.W.EachIs R' us ds
  | _, _, .nil, _ => .nil
  | _, _, .cons r t, k => .cons (k _ _ (List.mem_cons_self ..) r) (each_imp t fun u d hd => k u d (List.mem_cons_of_mem _ hd))
def rSortD (G : Gx) : List V → Hp → VK → Prop := fun xs H Q => ∃ (M : Mp) (S : Store) (p : Addr) (vs : List V) (ds : List D), xs = [.ref p] ∧ RelH G M S H ∧ SqL G.K H p vs ∧ RelDs G M ds vs ∧ sortOk ds = true ∧
  ∀ l ws, H l = none → RelDs G M (sortD ds) ws → Q (.ref l) (upd H l (.lst ws))
theorem sort_facts {ds : List D} (h : sortOk ds = true) : (∀ d ∈ ds, D.pl 64 d = true) ∧ PySem.W.AllAlike (ds.map D.P) ∧ PySem.W.Sortable (ds.map D.P) := by
  unfold sortOk at h
  simp only [Bool.and_eq_true, Bool.or_eq_true, List.all_eq_true] at h
  obtain ⟨⟨⟨h1, h2⟩, h3⟩, h4⟩ := h
  refine ⟨h1, ?_, ?_⟩
  · intro a ha b hb
    obtain ⟨x, hx, rfl⟩ := List.mem_map.mp ha
    obtain ⟨y, hy, rfl⟩ := List.mem_map.mp hb
    unfold aliker at h2
    simp only [List.all_eq_true] at h2
    exact h2 x hx y hy
  · rcases h4 with h4 | h4
    · refine .inl fun d hd => ?_
      obtain ⟨x, hx, rfl⟩ := List.mem_map.mp hd
      have q3 := h3 x hx
      have q4 := h4 x hx
      cases x with
      | tup ys =>
        cases ys with
        | nil => simp at q3
        | cons y ys => exact ⟨y.P, D.Ps ys, by simp [D.P, D.Ps]⟩
      | _ => simp at q4
    · refine .inr fun d hd => ?_
      obtain ⟨x, hx, rfl⟩ := List.mem_map.mp hd
      have q3 := h3 x hx
      have q4 := h4 x hx
      cases x <;> simp_all [D.P]
theorem cr_sortD (hu : X.A.units + 70 < cLine) : CallR X (.builtin "sorted") (rSortD (gx X)) := by
  intro pins s z H xs us Q I r h
  obtain ⟨M, S, p, vs, ds, rfl, rh, hp, rd, ok, k⟩ := h
  obtain ⟨u, rfl, ru⟩ := vals1 r
  cases ru
  obtain ⟨its, rv, pl, hz⟩ := I.list hp
  obtain ⟨f1, f2, f3⟩ := sort_facts ok
  have e := each_of rd rv
  have er : PySem.W.EachIs (fun v b => ∃ as, Reads s.heap v (D.P b) as) its ds := each_imp e fun u d hd ⟨v, r1, r2⟩ => Dp.reads I _ v u (RelD.dp rh (f1 d hd) r2) r1
  refine PySem.W.sorted_data (enc := D.P) (R := VD (gx X) M) pl.isList e er f2 f3 (by rw [rd.len]; exact hz) (fun b hb => ?_) fun out ho he => ?_
  · have := (P_lay (f1 b hb)).2
    omega
  · have he : PySem.W.EachIs (VD (gx X) M) out (sortD ds) := he
    obtain ⟨ws, h1, h2⟩ := of_each he
    obtain ⟨ep, he'⟩ := PyProof.Rows.sortedAll_at s.heap its out.toArray
    have hlen : ws.length ≤ sizeLine := by
      rw [h2.length, ho, rd.len]; exact hz
    exact ⟨.ref _, upd H (s.heap.objs.size + 1) (.lst ws), I.laid (t' := s.toks) (fun _ _ => PyProof.Rows.sortedAll_old) (Nat.le_succ _) ⟨hlen, out, ep, h2, he'⟩, rfl, k _ _ (I.hok.fresh (Nat.le_succ _)) h1⟩
theorem l1_sorted {G : Gx} : L1 G (rSortD G) (fun t xs => if !t && sortOk xs then some (.lst (sortD xs)) else none) := by
  intro M S H t xs p vs z Q rh h1 h2 hz k
  cases t with
  | true => cases hz
  | false =>
    dsimp only at hz
    split at hz
    · rename_i ok
      cases hz
      refine ⟨M, S, p, vs, xs, rfl, rh, h1, h2, by simpa using ok, fun l ws hl hw => ?_⟩
      obtain ⟨M', e1, e2, e3⟩ := Ext.lstNew rh hl hw
      exact k M' _ _ e1 e2 e3
    · cases hz
/-! ### subscripts -/
theorem place_eq (n : Nat) (i : Int) : place n i = ixN n i := rfl
theorem at_ok {G : Gx} {M : Mp} {xs : List D} {vs : List V} {i : Int} {d : D} (h : RelDs G M xs vs) (e : atD xs i = some d) : ∃ v, atI vs i = some v ∧ RelD G M d v := by
  unfold atD at e
  unfold atI
  rw [← h.len, ← place_eq]
  cases q : place xs.length i with
  | none => rw [q] at e; cases e
  | some j =>
    rw [q] at e
    exact h.get e
def rIxA (K : PySem.W.Frag) : R2 := fun x y H Q => rIxL K x y H Q ∨ rIxT K x y H Q
theorem ix_any : IxR X (rIxA X.K) := ix_list.or ix_tup
theorem se_ix (ha : SL X W a dl) (hb : SE X W b db) (hs : PlainIx b) : SE X W (.Subscript a b pos) (eIx dl db) := by
  refine (pe_ix ix_any ha hb hs).dimp ?_
  rintro s H Q ⟨M, r, S, en, rh, p⟩
  refine ⟨M, r, S, en, rh, (Post.bind (R := RSrc (gx X) s) p).imp fun v H1 h => ?_⟩
  obtain ⟨M1, c, S1, e1, rh1, rd1, p1⟩ := h
  refine ⟨M1, r, S1, en.mono e1, rh1, (Post.bind (R := RD (gx X)) p1).imp fun w H2 h => ?_⟩
  obtain ⟨M2, y, S2, e2, rh2, rd2, p2⟩ := h
  cases y with
  | int i =>
    cases (show _ = _ from rd2)
    dsimp only at p2
    cases q : c.get r S2 with
    | none => rw [q] at p2; exact p2.elim
    | some xs =>
      rw [q] at p2
      obtain ⟨p, vs, rfl, h1, h2⟩ := src_ok rh2 ((en.mono e1).mono e2) (rd1.mono e2) q
      cases q2 : atD xs i with
      | none =>
        have p2 : Post (gx X) (RD (gx X)) W M2 H2 s (Rs.ofO (atD xs i) S2) Q := p2
        rw [q2] at p2; exact p2.elim
      | some d =>
        have p2 : Post (gx X) (RD (gx X)) W M2 H2 s (Rs.ofO (atD xs i) S2) Q := p2
        rw [q2] at p2
        obtain ⟨v, h3, h4⟩ := at_ok h2 q2
        have fin := p2 M2 v H2 Ext.refl rh2 h4
        rcases sq_or h1 with h1 | h1
        · exact .inl ⟨p, vs, i, v, rfl, rfl, h1, h3, fin⟩
        · exact .inr ⟨p, vs, i, v, rfl, rfl, h1, h3, fin⟩
  | _ => exact p2.elim
/-- bounds of slices -/
theorem cutAt_eq (n d : Nat) (o : Option Int) : cutAt n d o = HT.sIx n d o := by
  cases o with
  | none => rfl
  | some i =>
    first
      | rfl
      | (unfold cutAt HT.sIx; dsimp only; split <;> omega)
theorem cutD_ok {G : Gx} {M : Mp} {xs : List D} {vs : List V} (h : RelDs G M xs vs) (lo hi : Option Int) : RelDs G M (cutD xs lo hi) (cutV vs lo hi) := by
  unfold cutD cutV
  rw [← h.len, cutAt_eq, cutAt_eq]
  exact (h.drop _).take _
end
end Dn

end
section
set_option Elab.async false
set_option linter.all false
set_option maxRecDepth 100000
set_option maxHeartbeats 4000000
/-! The rules: slices, in, built-ins of values, objects, calls, comprehensions. -/
namespace Dn
open PySem PySem.Spec PyProof.Rows L2
variable [Tb]
section
variable {X : Cx} {W : WX} {a b c e : Expr} {es : List Expr} {da db dc : DE} {ds : DA} {dl : DL} {pos : Pos}
/-! ### slices -/
def RO : Mp → Hp → Option Int → Option Int → Prop := fun _ _ b c => b = c
def tO (G : Gx) (W : WX) (d : DO) : TO := fun s H Q => ∃ M r S, EnvR G M H r s ∧ RelH G M S H ∧ Post G RO W M H s (d r S) Q
abbrev SO2 (X : Cx) (W : WX) (e : Option Expr) (d : DO) : Prop := PO X e (tO (gx X) W d)
theorem po_dimp {e : Option Expr} {t t' : TO} (h : PO X e t) (k : ∀ s H Q, t' s H Q → t s H Q) : PO X e t' := ⟨fun pins st s H Q I q => h.run pins st s H Q I (k s H Q q)⟩
theorem so_none : SO2 X W none oNone := by
  refine po_dimp po_none ?_
  rintro s H Q ⟨M, r, S, en, rh, p⟩
  exact p M _ H Ext.refl rh rfl
theorem so_some (h : SE X W a da) : SO2 X W (some a) (oSome da) := by
  refine po_dimp (po_some h) ?_
  rintro s H Q ⟨M, r, S, en, rh, p⟩
  refine ⟨M, r, S, en, rh, p.bind.imp fun v H1 h => ?_⟩
  obtain ⟨M1, x, S1, e1, rh1, rd1, p1⟩ := h
  cases x with
  | int i =>
    cases (show _ = _ from rd1)
    exact ⟨i, rfl, p1 M1 _ H1 Ext.refl rh1 rfl⟩
  | _ => exact p1.elim
def rSlQ (K : PySem.W.Frag) : V → Option Int → Option Int → Hp → VK → Prop := fun x lo hi H Q => rSlL K x lo hi H Q ∨ rSlA K x lo hi H Q
theorem sl_any : SlR X (rSlQ X.K) := sl_list.or sl_tupA
theorem se_slice {lo hi : Option Expr} {dlo dhi : DO} {p2 : Pos} (ha : SL X W a dl) (hl : SO2 X W lo dlo) (hh : SO2 X W hi dhi) : SE X W (.Subscript a (.Slice lo hi none p2) pos) (eSlice dl dlo dhi) := by
  refine (pe_slice sl_any ha hl hh).dimp ?_
  rintro s H Q ⟨M, r, S, en, rh, p⟩
  refine ⟨M, r, S, en, rh, (Post.bind (R := RSrc (gx X) s) p).imp fun v H1 h => ?_⟩
  obtain ⟨M1, c, S1, e1, rh1, rd1, p1⟩ := h
  refine ⟨M1, r, S1, en.mono e1, rh1, (Post.bind (R := RO) p1).imp fun l H2 h => ?_⟩
  obtain ⟨M2, l', S2, e2, rh2, rd2, p2⟩ := h
  obtain rfl : l' = l := rd2
  refine ⟨M2, r, S2, (en.mono e1).mono e2, rh2, (Post.bind (R := RO) p2).imp fun u H3 h => ?_⟩
  obtain ⟨M3, u', S3, e3, rh3, rd3, p3⟩ := h
  obtain rfl : u' = u := rd3
  have rd := (rd1.mono e2).mono e3
  have en3 := ((en.mono e1).mono e2).mono e3
  cases q : c.get r S3 with
  | none => rw [q] at p3; exact p3.elim
  | some xs =>
    rw [q] at p3
    obtain ⟨p, vs, rfl, h1, h2⟩ := src_ok rh3 en3 rd q
    cases ht : c.isT with
    | false =>
      rw [ht] at p3 h1
      have p3 : Post (gx X) (RD (gx X)) W M3 H3 s (.ok (.lst (cutD xs l' u')) S3) Q := p3
      refine .inl ⟨p, vs, rfl, h1, fun q hq => ?_⟩
      obtain ⟨M', x1, x2, x3⟩ := Ext.lstNew rh3 hq (cutD_ok h2 l' u')
      exact p3 M' _ _ x1 x2 x3
    | true =>
      rw [ht] at p3 h1
      have p3 : Post (gx X) (RD (gx X)) W M3 H3 s (.ok (.tup (cutD xs l' u')) S3) Q := p3
      refine .inr ⟨p, vs, rfl, h1, fun hw => ?_, fun _ q hq => ?_⟩
      · cases c with
        | cst t ys =>
          have e : ys = xs := Option.some.inj q
          subst e
          cases t with
          | true =>
            refine p3 M3 _ H3 Ext.refl rh3 ?_
            have ec : cutD ys l' u' = ys := by
              unfold cutD
              rw [cutAt_eq, cutAt_eq, h2.len, hw.1, hw.2]
              simp [← h2.len]
            rw [ec]
            exact rd
          | false => cases ht
        | own i => cases ht
        | loc l => cases ht
      · obtain ⟨M', x1, x2, x3⟩ := Ext.tupNew rh3 hq (cutD_ok h2 l' u')
        exact p3 M' _ _ x1 x2 x3
/-! ### in -/
def rInA (K : PySem.W.Frag) (neg : Bool) : R2 := fun x y H Q => ∃ d ds, Dp K H x d ∧ (Dp K H y (.list ds) ∨ Dp K H y (.tuple ds)) ∧ SeqAt.shaped d = true ∧ SeqAt.shaped (.list ds) = true ∧ Q (.bl (if neg then !ds.any (fun z => PyData.eqv z d) else ds.any fun z => PyData.eqv z d)) H
theorem shaped_lt {ds : List PyData} (h : SeqAt.shaped (.list ds) = true) : SeqAt.shaped (.tuple ds) = true := by
  unfold SeqAt.shaped at h ⊢
  simpa [PyData.canLay0, PyData.depth] using h
theorem op_inA (hu : X.A.units + 65 < cLine) : OpR X (compareOp .In) (rInA X.K false) := by
  intro pins s z H x y v u Q I rx ry h
  obtain ⟨d, ds, hd, he, sd, se, q⟩ := h
  obtain ⟨as, r1⟩ := Dp.reads I d x v hd rx
  rcases he with he | he
  · obtain ⟨bs, r2⟩ := Dp.reads I (.list ds) y u he ry
    exact SeqAt.in_list_reads r2 r1 (SeqAt.canLay_of_shaped se) (SeqAt.canLay_of_shaped sd) (room_in_shaped sd hu) ⟨.bl _, H, I, rfl, q⟩
  · obtain ⟨bs, r2⟩ := Dp.reads I (.tuple ds) y u he ry
    exact SeqAt.in_tuple_reads r2 r1 (SeqAt.canLay_of_shaped (shaped_lt se)) (SeqAt.canLay_of_shaped sd) (room_in_shaped sd hu) ⟨.bl _, H, I, rfl, q⟩
theorem op_notInA (hu : X.A.units + 65 < cLine) : OpR X (compareOp .NotIn) (rInA X.K true) := by
  intro pins s z H x y v u Q I rx ry h
  obtain ⟨d, ds, hd, he, sd, se, q⟩ := h
  obtain ⟨as, r1⟩ := Dp.reads I d x v hd rx
  rcases he with he | he
  · obtain ⟨bs, r2⟩ := Dp.reads I (.list ds) y u he ry
    exact SeqAt.notIn_list_reads r2 r1 (SeqAt.canLay_of_shaped se) (SeqAt.canLay_of_shaped sd) (room_in_shaped sd hu) ⟨.bl _, H, I, rfl, q⟩
  · obtain ⟨bs, r2⟩ := Dp.reads I (.tuple ds) y u he ry
    exact SeqAt.notIn_tuple_reads r2 r1 (SeqAt.canLay_of_shaped (shaped_lt se)) (SeqAt.canLay_of_shaped sd) (room_in_shaped sd hu) ⟨.bl _, H, I, rfl, q⟩
theorem any_eqv {k m : Nat} {x : D} (hx : D.pl k x = true) : ∀ {xs : List D}, D.pls m xs = true → ((D.Ps xs).any fun z => PyData.eqv z x.P) = xs.any fun z => eqD z x
  | [], _ => rfl
  | y :: xs, h => by
    have h' : D.pl m y = true ∧ D.pls m xs = true := by simpa [D.pls] using h
    simp only [D.Ps, List.any_cons]
    rw [eqv_of y x h'.1 hx, any_eqv hx h'.2]
theorem in_t {G : Gx} {neg : Bool} {W : WX} {da : DE} {dl : DL} {s : L2.St} {H : Hp} {Q : VK} (h : tE G W (eIn neg da dl) s H Q) : tOp (rInA G.K neg) (tE G W da) (tL G W dl) s H Q := by
  obtain ⟨M, r, S, en, rh, p⟩ := h
  refine ⟨M, r, S, en, rh, (Post.bind (R := RD G) p).imp fun v H1 h => ?_⟩
  obtain ⟨M1, x, S1, e1, rh1, rd1, p1⟩ := h
  refine ⟨M1, r, S1, en.mono e1, rh1, (Post.bind (R := RSrc G s) p1).imp fun w H2 h => ?_⟩
  obtain ⟨M2, c, S2, e2, rh2, rd2, p2⟩ := h
  cases q : c.get r S2 with
  | none => rw [q] at p2; exact p2.elim
  | some xs =>
    rw [q] at p2
    obtain ⟨p, vs, rfl, h1, h2⟩ := src_ok rh2 ((en.mono e1).mono e2) rd2 q
    have p2 : Post G (RD G) W M2 H2 s (if D.pl 63 x && D.pls 63 xs then .ok (.bl (if neg then !xs.any (fun z => eqD z x) else xs.any (fun z => eqD z x))) S2 else .bad) Q := p2
    split at p2
    · rename_i hc
      simp only [Bool.and_eq_true] at hc
      have dpx := RelD.dp rh2 hc.1 (rd1.mono e2)
      have dps := RelDs.dps rh2 hc.2 h2
      have sx := P_lay hc.1
      have sxs := Ps_lay hc.2
      refine ⟨x.P, D.Ps xs, dpx, ?_, ?_, ?_, ?_⟩
      · cases ht : c.isT with
        | true => rw [ht] at h1; exact .inr (.tup h1 dps)
        | false => rw [ht] at h1; exact .inl (.lst h1 dps)
      · unfold SeqAt.shaped
        simp only [sx.1, Bool.true_and, decide_eq_true_eq]
        omega
      · unfold SeqAt.shaped
        have q1 : (PyData.list (D.Ps xs)).canLay0 = true := by simp only [PyData.canLay0]; exact sxs.1
        have q2 : (PyData.list (D.Ps xs)).depth ≤ 64 := by simp only [PyData.depth]; omega
        rw [q1, decide_eq_true q2]
        rfl
      · rw [any_eqv hc.1 hc.2]
        exact p2 M2 _ H2 Ext.refl rh2 rfl
    · exact p2.elim
theorem se_in {op : CmpOp} {neg : Bool} (ho : OpR X (compareOp op) (rInA X.K neg)) (ha : SE X W a da) (hb : SL X W b dl) (hm : behindInMarks op b = false) : SE X W (.Compare a [op] [b] pos) (eIn neg da dl) := (pe_cmpR ho ha hb hm).dimp fun _ _ _ => in_t
/-! ### built-ins of values -/
theorem se_len_str (hc : PE X e (tCB (fun xs H Q => ∃ z, xs = [.str z] ∧ z.length ≤ sizeLine ∧ Q (.int z.length) H) (tCons (tE (gx X) W da) tNil))) : SE X W e (eLenS da) := by
  refine hc.dimp ?_
  rintro s H Q ⟨M, r, S, en, rh, p⟩
  refine ⟨M, r, S, en, rh, p.bind.imp fun v H1 h => ?_⟩
  obtain ⟨M1, x, S1, e1, rh1, rd1, p1⟩ := h
  cases x with
  | str z =>
    cases (show _ = _ from rd1)
    dsimp only at p1
    split at p1
    · rename_i hz
      exact ⟨z, rfl, hz, p1 M1 _ H1 Ext.refl rh1 rfl⟩
    · exact p1.elim
  | _ => exact p1.elim
theorem se_abs (hc : PE X e (tCB (fun xs H Q => ∃ i, xs = [.int i] ∧ Q (.int (if i < 0 then -i else i)) H) (tCons (tE (gx X) W da) tNil))) : SE X W e (eAbs da) := by
  refine hc.dimp ?_
  rintro s H Q ⟨M, r, S, en, rh, p⟩
  refine ⟨M, r, S, en, rh, p.bind.imp fun v H1 h => ?_⟩
  obtain ⟨M1, x, S1, e1, rh1, rd1, p1⟩ := h
  cases x with
  | int z =>
    cases (show _ = _ from rd1)
    exact ⟨z, rfl, p1 M1 _ H1 Ext.refl rh1 rfl⟩
  | _ => exact p1.elim
theorem se_intOf (hc : PE X e (tCB (fun xs H Q => (∃ i, xs = [.int i] ∧ Q (.int i) H) ∨ ∃ k, xs = [.bl k] ∧ Q (.int (if k then 1 else 0)) H) (tCons (tE (gx X) W da) tNil))) : SE X W e (eInt da) := by
  refine hc.dimp ?_
  rintro s H Q ⟨M, r, S, en, rh, p⟩
  refine ⟨M, r, S, en, rh, p.bind.imp fun v H1 h => ?_⟩
  obtain ⟨M1, x, S1, e1, rh1, rd1, p1⟩ := h
  cases x with
  | int z =>
    cases (show _ = _ from rd1)
    exact .inl ⟨z, rfl, p1 M1 _ H1 Ext.refl rh1 rfl⟩
  | bl z =>
    cases (show _ = _ from rd1)
    exact .inr ⟨z, rfl, p1 M1 _ H1 Ext.refl rh1 rfl⟩
  | _ => exact p1.elim
theorem se_min2 (hc : PE X e (tCB (fun xs H Q => ∃ i j, xs = [.int i, .int j] ∧ Q (.int (if j < i then j else i)) H) (tCons (tE (gx X) W da) (tCons (tE (gx X) W db) tNil)))) : SE X W e (eMin2 da db) := by
  refine hc.dimp ?_
  rintro s H Q ⟨M, r, S, en, rh, p⟩
  refine ⟨M, r, S, en, rh, (bind2 en p).imp fun v H1 h => ?_⟩
  obtain ⟨M1, S1, e1, rh1, en1, p1⟩ := h
  refine ⟨M1, r, S1, en1, rh1, p1.imp fun u H2 h => ?_⟩
  obtain ⟨M2, x, y, S2, e2, rh2, en2, rd1, rd2, p2⟩ := h
  split at p2
  · rename_i i j
    cases (show _ = _ from rd1)
    cases (show _ = _ from rd2)
    exact ⟨_, _, rfl, p2 M2 _ H2 Ext.refl rh2 rfl⟩
  · exact p2.elim
theorem se_max2 (hc : PE X e (tCB (fun xs H Q => ∃ i j, xs = [.int i, .int j] ∧ Q (.int (if j > i then j else i)) H) (tCons (tE (gx X) W da) (tCons (tE (gx X) W db) tNil)))) : SE X W e (eMax2 da db) := by
  refine hc.dimp ?_
  rintro s H Q ⟨M, r, S, en, rh, p⟩
  refine ⟨M, r, S, en, rh, (bind2 en p).imp fun v H1 h => ?_⟩
  obtain ⟨M1, S1, e1, rh1, en1, p1⟩ := h
  refine ⟨M1, r, S1, en1, rh1, p1.imp fun u H2 h => ?_⟩
  obtain ⟨M2, x, y, S2, e2, rh2, en2, rd1, rd2, p2⟩ := h
  split at p2
  · rename_i i j
    cases (show _ = _ from rd1)
    cases (show _ = _ from rd2)
    exact ⟨_, _, rfl, p2 M2 _ H2 Ext.refl rh2 rfl⟩
  · exact p2.elim
/-- isinstance(x, a built-in class) -/
theorem ty_ok {G : Gx} {M : Mp} {S : Store} {H : Hp} {x : D} {v : V} {t : String} (rh : RelH G M S H) (rd : RelD G M x v) (h : tyName S x = some t) : TyX G.K H v (.type t) := by
  cases x with
  | non => cases h; cases (show _ = _ from rd); exact .base .non
  | bl b => cases h; cases (show _ = _ from rd); exact .base (.bl b)
  | int b => cases h; cases (show _ = _ from rd); exact .base (.int b)
  | str b => cases h; cases (show _ = _ from rd); exact .base (.str b)
  | tup xs =>
    cases h
    obtain ⟨p, vs, rfl, h1, h2⟩ := rd
    exact .base (.tup (rh.tup p vs h1))
  | lst xs =>
    cases h
    obtain ⟨p, vs, rfl, h1, h2⟩ := rd
    rcases rh.sq h1 with (z | ⟨o, z⟩) | ⟨o, its, n, z1, z2, _⟩
    · exact .base (.lst z)
    · exact .base (.frz z)
    · exact .kList z1 z2
  | ref l =>
    obtain ⟨p, rfl, h1⟩ := rd
    dsimp only [tyName] at h
    cases q : S[l]? with
    | none => rw [q] at h; cases h
    | some o =>
      rw [q] at h
      cases o with
      | lst ds =>
        cases h
        obtain ⟨a, e1, vs, e2, e3⟩ := rh.obj l _ q
        rw [h1] at e1; cases e1
        exact .base (.lst e2)
      | dct b kvs =>
        cases h
        obtain ⟨a, e1, e2⟩ := rh.obj l _ q
        rw [h1] at e1; cases e1
        rcases e2 with ⟨_, vs, e3, _⟩ | ⟨_, vs, e3, _⟩
        · exact .base (.dK e3)
        · exact .base (.dT e3)
      | ins _ _ => cases h
  | cls _ => cases h
  | fn _ => cases h
def kitOk (n : String) : Bool := ["NoneType", "bool", "int", "str", "tuple", "list", "dict"].all fun t => decide (kitB t n = some (isTy t n))
theorem se_isTy {n : String} (hn : kitOk n = true) (hc : PE X e (tCB (rIsi X.K) (tCons (tE (gx X) W da) (tCons (tC (.ty n)) tNil)))) : SE X W e (eIsTy n da) := by
  refine hc.dimp ?_
  rintro s H Q ⟨M, r, S, en, rh, p⟩
  refine ⟨M, r, S, en, rh, p.bind.imp fun v H1 h => ?_⟩
  obtain ⟨M1, x, S1, e1, rh1, rd1, p1⟩ := h
  cases q : tyName S1 x with
  | none => rw [q] at p1; exact p1.elim
  | some t =>
    rw [q] at p1
    have hk : kitB t n = some (isTy t n) := by
      unfold kitOk at hn
      rw [List.all_eq_true] at hn
      refine of_decide_eq_true (hn t ?_)
      cases x with
      | non => cases q; simp
      | bl _ => cases q; simp
      | int _ => cases q; simp
      | str _ => cases q; simp
      | tup _ => cases q; simp
      | lst _ => cases q; simp
      | ref l =>
        dsimp only [tyName] at q
        split at q
        · cases q; simp
        · cases q; simp
        · cases q
      | cls _ => cases q
      | fn _ => cases q
    exact ⟨v, .ty n, .type t, .type n, isTy t n, rfl, .ty n, ty_ok rh1 rd1 q, kit_ty hk, p1 M1 _ H1 Ext.refl rh1 rfl⟩
/-! ### objects -/
/-- what the text's class must have -/
def FldOk (G : Gx) (c f : Str) : Prop := ∀ C, G.mg c = some (.ref C) → Cls G.K C ∧ NoAttr G.K C f
theorem se_fld {f : Str} {cs : List Str} (hf : ∀ c ∈ cs, FldOk (gx X) c f) (ha : SE X W a da) (hb : attributeBase a f X.env (eval a X.env) = eval a X.env) : SE X W (.Attribute a f pos) (eFld cs f da) := by
  refine (pe_fld ha hb).dimp ?_
  rintro s H Q ⟨M, r, S, en, rh, p⟩
  refine ⟨M, r, S, en, rh, p.bind.imp fun v H1 h => ?_⟩
  obtain ⟨M1, x, S1, e1, rh1, rd1, p1⟩ := h
  cases x with
  | ref l =>
    obtain ⟨p, rfl, h1⟩ := rd1
    dsimp only at p1
    cases q : S1[l]? with
    | none => rw [q] at p1; exact p1.elim
    | some o =>
      rw [q] at p1
      cases o with
      | ins c fs =>
        dsimp only at p1
        obtain ⟨a2, x1, C, dx, vfs, x2, x3, x4⟩ := rh1.obj l _ q
        rw [h1] at x1; cases x1
        split at p1
        · rename_i hc
          obtain ⟨k1, k2⟩ := hf c hc C x3
          cases q2 : fs.lookup f with
          | none => rw [q2] at p1; exact p1.elim
          | some d =>
            rw [q2] at p1
            obtain ⟨v, y1, y2⟩ := x4.lookup q2
            exact ⟨p, C, dx, vfs, v, rfl, x2, k1, k2, y1, p1 M1 v H1 Ext.refl rh1 y2⟩
        · exact p1.elim
      | lst _ => exact p1.elim
      | dct _ _ => exact p1.elim
  | _ => exact p1.elim
/-- what a def is worth, as a promise -/
def spD (G : Gx) (m : Fn) : Sp := fun vs H Q E => ∃ M ds S, RelDs G M ds vs ∧ RelH G M S H ∧ Post G (RD G) (fun cls dx _ H => E cls dx H) M H [] (m ds S) Q
theorem spD_of {G : Gx} {m : Fn} {M : Mp} {ds : List D} {S : Store} {vs : List V} {H : Hp} {s : L2.St} {Q : VK} {E : XK} (h1 : RelDs G M ds vs) (h2 : RelH G M S H) (hE : ∀ cls dx H', W cls dx s H' → E cls dx H') (p : Post G (RD G) W M H s (m ds S) Q) : spD G m vs H Q E := by
  refine ⟨M, ds, S, h1, h2, ?_⟩
  cases q : m ds S with
  | ok x S1 => rw [q] at p; exact p
  | exc c fs S1 =>
    rw [q] at p
    exact fun M' H' C dx e rh g x => hE _ _ _ (p M' H' C dx e rh g x)
  | bad => rw [q] at p; exact p
/-- a def of the text, called: no exception leaves here -/
abbrev WN : WX := fun _ _ _ _ => False
abbrev EN : XK := fun _ _ _ => False
def spN (G : Gx) (m : Fn) : Sp := fun vs H Q _ => spD G m vs H Q EN
theorem se_call {m : Fn} (hc : PE X e (tCall (spN (gx X) m) [] EN (tA (gx X) WN ds))) : SE X WN e (eCall m ds) := by
  refine hc.dimp ?_
  rintro s H Q ⟨M, r, S, en, rh, p⟩
  refine ⟨M, r, S, en, rh, (Post.bind (R := RA (gx X)) p).imp fun vs H1 h => ?_⟩
  obtain ⟨M1, xs, S1, e1, rh1, rd1, p1⟩ := h
  rw [List.append_nil]
  exact spD_of rd1 rh1 (fun _ _ _ z => z) p1
theorem se_call0 {m : Fn} (hc : PE X e (tCall (spN (gx X) m) [] EN tNil)) : SE X WN e (eCall m aNil) := by
  refine hc.dimp ?_
  rintro s H Q ⟨M, r, S, en, rh, p⟩
  have p : Post (gx X) (RD (gx X)) WN M H s (m [] S) Q := p
  exact spD_of (vs := [] ++ []) (ds := []) rfl rh (fun _ _ _ z => z) p
/-- a method -/
theorem se_meth {c mn : Str} {C : Addr} {g : Fn} (hC : X.mg c = some (.ref C)) (hc : PE X e (tMeth C mn (spN (gx X) g) [] EN (tE (gx X) WN da) (tA (gx X) WN ds))) : SE X WN e (eMeth c mn g da ds) := by
  refine hc.dimp ?_
  rintro s H Q ⟨M, r, S, en, rh, p⟩
  refine ⟨M, r, S, en, rh, (Post.bind (R := RD (gx X)) p).imp fun v H1 h => ?_⟩
  obtain ⟨M1, x, S1, e1, rh1, rd1, p1⟩ := h
  cases x with
  | ref l =>
    have rd1' := rd1
    obtain ⟨pa, rfl, h1⟩ := rd1
    dsimp only at p1
    cases q : S1[l]? with
    | none => rw [q] at p1; exact p1.elim
    | some o =>
      rw [q] at p1
      cases o with
      | ins k fs =>
        dsimp only at p1
        obtain ⟨a2, x1, C2, dx, vfs, x2, x3, x4⟩ := rh1.obj l _ q
        rw [h1] at x1; cases x1
        split at p1
        · rename_i hk
          obtain ⟨rfl, hn⟩ := hk
          have x3 : X.mg k = some (.ref C2) := x3
          rw [hC] at x3
          cases x3
          refine ⟨pa, dx, vfs, rfl, x2, x4.lookupN hn, M1, r, S1, en.mono e1, rh1, (Post.bind (R := RA (gx X)) p1).imp fun vs H2 h => ?_⟩
          obtain ⟨M2, xs, S2, e2, rh2, rd2, p2⟩ := h
          rw [List.append_nil]
          exact spD_of (ds := .ref l :: xs) (RelDs.cons (RelD.mono (G := gx X) (d := .ref l) e2 rd1') rd2) rh2 (fun _ _ _ z => z) p2
        · exact p1.elim
      | lst _ => exact p1.elim
      | dct _ _ => exact p1.elim
  | _ => exact p1.elim
theorem se_meth0 {c mn : Str} {C : Addr} {g : Fn} (hC : X.mg c = some (.ref C)) (hc : PE X e (tMeth C mn (spN (gx X) g) [] EN (tE (gx X) WN da) tNil)) : SE X WN e (eMeth c mn g da aNil) := by
  refine hc.dimp ?_
  rintro s H Q ⟨M, r, S, en, rh, p⟩
  refine ⟨M, r, S, en, rh, (Post.bind (R := RD (gx X)) p).imp fun v H1 h => ?_⟩
  obtain ⟨M1, x, S1, e1, rh1, rd1, p1⟩ := h
  cases x with
  | ref l =>
    have rd1' := rd1
    obtain ⟨pa, rfl, h1⟩ := rd1
    dsimp only at p1
    cases q : S1[l]? with
    | none => rw [q] at p1; exact p1.elim
    | some o =>
      rw [q] at p1
      cases o with
      | ins k fs =>
        dsimp only at p1
        obtain ⟨a2, x1, C2, dx, vfs, x2, x3, x4⟩ := rh1.obj l _ q
        rw [h1] at x1; cases x1
        split at p1
        · rename_i hk
          obtain ⟨rfl, hn⟩ := hk
          have x3 : X.mg k = some (.ref C2) := x3
          rw [hC] at x3
          cases x3
          refine ⟨pa, dx, vfs, rfl, x2, x4.lookupN hn, ?_⟩
          have p1 : Post (gx X) (RD (gx X)) WN M1 H1 s (g [.ref l] S1) Q := p1
          exact spD_of (ds := [.ref l]) (vs := [.ref pa]) (RelDs.cons rd1' rfl) rh1 (fun _ _ _ z => z) p1
        · exact p1.elim
      | lst _ => exact p1.elim
      | dct _ _ => exact p1.elim
  | _ => exact p1.elim
end
end Dn

end
section
set_option Elab.async false
set_option linter.all false
set_option maxRecDepth 100000
set_option maxHeartbeats 4000000
/-! The rules: new lists, what is walked, comprehensions, statements, defs. -/
namespace Dn
open PySem PySem.Spec PyProof.Rows L2
variable [Tb]
/-! ### new lists -/
/-- a new list of these: no one's yet -/
def RN (G : Gx) (H0 : Hp) : Mp → Hp → List D → V → Prop := fun M H ds v => ∃ p vs, v = .ref p ∧ H p = some (.lst vs) ∧ RelDs G M ds vs ∧ (∀ l, M.loc l ≠ some p) ∧ M.lst p = none ∧ H0 p = none
def tN (G : Gx) (W : WX) (d : DA) : TE := fun s H Q => ∃ M r S, EnvR G M H r s ∧ RelH G M S H ∧ Post G (RN G H) W M H s (d r S) Q
abbrev SN (X : Cx) (W : WX) (e : Expr) (d : DA) : Prop := PE X e (tN (gx X) W d)
theorem RelH.nolst {G : Gx} {M : Mp} {S : Store} {H : Hp} {p : Addr} (rh : RelH G M S H) (hp : H p = none) : M.lst p = none := by
  cases q : M.lst p with
  | none => rfl
  | some x => rcases rh.lst p x q with z | ⟨o, z⟩ <;> (rw [hp] at z; cases z)
theorem RelH.noloc {G : Gx} {M : Mp} {S : Store} {H : Hp} {p : Addr} (rh : RelH G M S H) (hp : H p = none) : ∀ l, M.loc l ≠ some p := fun l q => by
  have hl := rh.dom l p q
  obtain ⟨a, e1, e2⟩ := rh.obj l S[l] (by simp [hl])
  rw [q] at e1; cases e1
  rw [hp] at e2
  cases hS : S[l] with
  | lst ds => rw [hS] at e2; obtain ⟨_, z, _⟩ := e2; cases z
  | ins c fs => rw [hS] at e2; obtain ⟨_, _, _, z, _⟩ := e2; cases z
  | dct _ _ => rw [hS] at e2; exact DctR.not e2
theorem RelH.notup {G : Gx} {M : Mp} {S : Store} {H : Hp} {p : Addr} (rh : RelH G M S H) (hp : ∀ vs, H p ≠ some (.tup vs)) : M.tup p = none := by
  cases q : M.tup p with
  | none => rfl
  | some x => exact absurd (rh.tup p x q) (hp x)
/-- an object that no one knows -/
theorem RelH.other {G : Gx} {M : Mp} {S : Store} {H : Hp} {p : Addr} {o : HO} (rh : RelH G M S H) (hp : H p = none) : RelH G M S (upd H p o) := by
  have ne : ∀ b o, H b = some o → b ≠ p := fun b o h q => by rw [q, hp] at h; cases h
  refine ⟨fun l x q => ?_, rh.dom, rh.inj, fun a x h => ?_, fun a x h => ?_, rh.apt, tabs_fresh rh.tabs hp⟩
  · obtain ⟨a, e1, e2⟩ := rh.obj l x q
    refine ⟨a, e1, ?_⟩
    rw [upd_ne (fun z => rh.noloc hp l (by rw [← z]; exact e1))]
    exact e2
  · have := rh.tup a x h
    rw [upd_ne (ne a _ this)]; exact this
  · have q : a ≠ p := fun q => by rw [q, rh.nolst hp] at h; cases h
    rcases rh.lst a x h with z | ⟨o, z⟩
    · exact .inl (by rw [upd_ne q]; exact z)
    · exact .inr ⟨o, by rw [upd_ne q]; exact z⟩
theorem Ext.other {M : Mp} {H : Hp} {p : Addr} {o : HO} (hp : H p = none) : Ext M H M (upd H p o) := by
  have ne : ∀ b o, H b = some o → b ≠ p := fun b o h q => by rw [q, hp] at h; cases h
  exact ⟨fun _ _ h => h, fun _ _ h => h, fun _ _ h => h, fun _ _ h => .inl h, fun _ _ h => .inl h, fun a o h _ _ => by rw [upd_ne (ne a o h)]; exact h, fun a o h => ⟨o, by rw [upd_ne (ne a o h)]; exact h⟩⟩
/-- from no one's to one that stays -/
theorem frz_new {G : Gx} {M M' : Mp} {S : Store} {H H' : Hp} {p : Addr} {ds : List D} {vs : List V} (e : Ext M H M' H') (rh : RelH G M' S H') (hp : H' p = some (.lst vs)) (rd : RelDs G M' ds vs) (h1 : ∀ l, M'.loc l ≠ some p) (h2 : M'.lst p = none) (h0 : H p = none) :
    ∃ M2, Ext M H M2 H' ∧ RelH G M2 S H' ∧ RelD G M2 (.lst ds) (.ref p) ∧ Le M' M2 ∧ M2.loc = M'.loc ∧ ∀ a, a ≠ p → M2.lst a = M'.lst a := by
  have le : Le M' ⟨M'.loc, M'.tup, fun a => if a = p then some vs else M'.lst a⟩ := ⟨fun _ _ h => h, fun _ _ h => h, fun a x h => by
    have : a ≠ p := fun q => by rw [q, h2] at h; cases h
    show (if a = p then some vs else M'.lst a) = some x
    rw [if_neg this]; exact h⟩
  refine ⟨_, ⟨fun l a h => le.loc l a (e.loc l a h), fun l a h => le.tup l a (e.tup l a h), fun l a h => le.lst l a (e.lst l a h), e.new, fun a x h => ?_, e.keep, e.there⟩, ⟨fun l o q => ?_, rh.dom, rh.inj, rh.tup, fun a x h => ?_, fun a x l h => ?_, rh.tabs⟩, ⟨p, vs, rfl, .inl (by show (if p = p then some vs else M'.lst p) = some vs; rw [if_pos rfl]), RelDs.le le rd⟩, le, rfl, fun a ha => by show (if a = p then some vs else M'.lst a) = M'.lst a; rw [if_neg ha]⟩
  · by_cases q : a = p
    · exact .inr (by rw [q]; exact h0)
    · have h' : (if a = p then some vs else M'.lst a) = some x := h
      rw [if_neg q] at h'
      exact e.newl a x h'
  · obtain ⟨a, e1, e2⟩ := rh.obj l o q
    refine ⟨a, e1, ?_⟩
    cases o with
    | lst xs => obtain ⟨ws, q1, q2⟩ := e2; exact ⟨ws, q1, RelDs.le le q2⟩
    | ins c fs =>
      obtain ⟨C, dx, vfs, q1, q2, q3⟩ := e2
      refine ⟨C, dx, vfs, q1, q2, ?_⟩
      have all : ∀ {fs : List (Str × D)} {vfs : List (Str × V)}, RelFs G M' fs vfs → RelFs G ⟨M'.loc, M'.tup, fun a => if a = p then some vs else M'.lst a⟩ fs vfs := by
        intro fs
        induction fs with
        | nil => exact fun h => h
        | cons x fs ih =>
          obtain ⟨f, d⟩ := x
          rintro _ ⟨v, r, rfl, k1, k2⟩
          exact ⟨v, r, rfl, RelD.le le k1, ih k2⟩
      exact all q3
    | dct _ _ => exact DctR.map (fun _ _ q => RelD.le le q) e2
  · by_cases q : a = p
    · have h' : (if a = p then some vs else M'.lst a) = some x := h
      rw [if_pos q] at h'
      cases h'
      rw [q]
      exact .inl hp
    · have h' : (if a = p then some vs else M'.lst a) = some x := h
      rw [if_neg q] at h'
      exact rh.lst a x h'
  · by_cases q : a = p
    · rw [q]; exact h1 l
    · have h' : (if a = p then some vs else M'.lst a) = some x := h
      rw [if_neg q] at h'
      exact rh.apt a x l h'
/-- .. to a numbered one -/
theorem loc_new {G : Gx} {M M' : Mp} {S : Store} {H H' : Hp} {p : Addr} {ds : List D} {vs : List V} (e : Ext M H M' H') (rh : RelH G M' S H') (hp : H' p = some (.lst vs)) (rd : RelDs G M' ds vs) (h1 : ∀ l, M'.loc l ≠ some p) (h2 : M'.lst p = none) (h0 : H p = none) :
    ∃ M2, Ext M H M2 H' ∧ RelH G M2 (S ++ [.lst ds]) H' ∧ RelD G M2 (.ref S.length) (.ref p) := by
  have nS : ∀ l x, M'.loc l = some x → l ≠ S.length := fun l x h q => by have := rh.dom l x h; omega
  have le : Le M' ⟨fun l => if l = S.length then some p else M'.loc l, M'.tup, M'.lst⟩ := ⟨fun l x h => by
    show (if l = S.length then some p else M'.loc l) = some x
    rw [if_neg (nS l x h)]; exact h, fun _ _ h => h, fun _ _ h => h⟩
  have all : ∀ {fs : List (Str × D)} {vfs : List (Str × V)}, RelFs G M' fs vfs → RelFs G ⟨fun l => if l = S.length then some p else M'.loc l, M'.tup, M'.lst⟩ fs vfs := by
    intro fs
    induction fs with
    | nil => exact fun h => h
    | cons x fs ih =>
      obtain ⟨f, d⟩ := x
      rintro _ ⟨v, r, rfl, k1, k2⟩
      exact ⟨v, r, rfl, RelD.le le k1, ih k2⟩
  refine ⟨_, ⟨fun l a h => le.loc l a (e.loc l a h), fun l a h => le.tup l a (e.tup l a h), fun l a h => le.lst l a (e.lst l a h), fun l x h => ?_, e.newl, e.keep, e.there⟩, ⟨fun l o q => ?_, fun l x h => ?_, fun l k x k1 k2 => ?_, rh.tup, rh.lst, fun a x l h q => ?_, rh.tabs⟩, p, rfl, by show (if S.length = S.length then some p else M'.loc S.length) = some p; rw [if_pos rfl]⟩
  · have h' : (if l = S.length then some p else M'.loc l) = some x := h
    by_cases q : l = S.length
    · rw [if_pos q] at h'; cases h'
      exact .inr h0
    · rw [if_neg q] at h'; exact e.new l x h'
  · by_cases hl : l = S.length
    · subst hl
      rw [List.getElem?_append_right (Nat.le_refl _)] at q
      simp at q
      subst q
      exact ⟨p, by show (if S.length = S.length then some p else M'.loc S.length) = some p; rw [if_pos rfl], vs, hp, RelDs.le le rd⟩
    · have hlt : l < S.length := by
        have := (List.getElem?_eq_some_iff.mp q).1
        simp at this; omega
      rw [List.getElem?_append_left hlt] at q
      obtain ⟨a, e1, e2⟩ := rh.obj l o q
      refine ⟨a, by show (if l = S.length then some p else M'.loc l) = some a; rw [if_neg hl]; exact e1, ?_⟩
      cases o with
      | lst xs => obtain ⟨ws, q1, q2⟩ := e2; exact ⟨ws, q1, RelDs.le le q2⟩
      | ins c fs => obtain ⟨C, dx, vfs, q1, q2, q3⟩ := e2; exact ⟨C, dx, vfs, q1, q2, all q3⟩
      | dct _ _ => exact DctR.map (fun _ _ q => RelD.le le q) e2
  · have h' : (if l = S.length then some p else M'.loc l) = some x := h
    by_cases q : l = S.length
    · rw [q]; simp
    · rw [if_neg q] at h'
      have := rh.dom l x h'
      simp; omega
  · have h1' : (if l = S.length then some p else M'.loc l) = some x := k1
    have h2' : (if k = S.length then some p else M'.loc k) = some x := k2
    by_cases q1 : l = S.length <;> by_cases q2 : k = S.length
    · rw [q1, q2]
    · rw [if_pos q1] at h1'; rw [if_neg q2] at h2'; cases h1'; exact absurd h2' (h1 k)
    · rw [if_neg q1] at h1'; rw [if_pos q2] at h2'; cases h2'; exact absurd h1' (h1 l)
    · rw [if_neg q1] at h1'; rw [if_neg q2] at h2'; exact rh.inj l k x h1' h2'
  · have h' : (if l = S.length then some p else M'.loc l) = some a := q
    by_cases z : l = S.length
    · rw [if_pos z] at h'; cases h'
      rw [h2] at h; cases h
    · rw [if_neg z] at h'
      exact rh.apt a x l h h'
section
variable {X : Cx} {W : WX} {a b c e : Expr} {es : List Expr} {da db dc : DE} {ds : DA} {dl : DL} {pos : Pos}
/-- a list that stays -/
theorem frz_t {G : Gx} {s : L2.St} {H : Hp} {Q : VK} (h : tE G W (eFrz ds) s H Q) : tN G W ds s H Q := by
  obtain ⟨M, r, S, en, rh, p⟩ := h
  refine ⟨M, r, S, en, rh, ?_⟩
  unfold eFrz at p
  cases q : ds r S with
  | ok xs S1 =>
    rw [q] at p
    rintro M' v H' e rh' ⟨pa, vs, rfl, h1, h2, h3, h4, h5⟩
    obtain ⟨M2, x1, x2, x3, _, _⟩ := frz_new e rh' h1 h2 h3 h4 h5
    exact p M2 _ H' x1 x2 x3
  | exc c fs S1 => rw [q] at p; exact p
  | bad => rw [q] at p; exact p
theorem se_frz (h : SN X W e ds) : SE X W e (eFrz ds) := h.dimp fun _ _ _ => frz_t
/-- a list that changes -/
theorem new_t {G : Gx} {s : L2.St} {H : Hp} {Q : VK} (h : tE G W (eNew ds) s H Q) : tN G W ds s H Q := by
  obtain ⟨M, r, S, en, rh, p⟩ := h
  refine ⟨M, r, S, en, rh, ?_⟩
  unfold eNew at p
  cases q : ds r S with
  | ok xs S1 =>
    rw [q] at p
    rintro M' v H' e rh' ⟨pa, vs, rfl, h1, h2, h3, h4, h5⟩
    obtain ⟨M2, x1, x2, x3⟩ := loc_new e rh' h1 h2 h3 h4 h5
    exact p M2 _ H' x1 x2 x3
  | exc c fs S1 => rw [q] at p; exact p
  | bad => rw [q] at p; exact p
theorem se_new (h : SN X W e ds) : SE X W e (eNew ds) := h.dimp fun _ _ _ => new_t
/-- a display -/
theorem sn_lst (h : SA X W es ds) : SN X W (.List es pos) (nLst ds) := by
  refine (pe_lst h).dimp ?_
  rintro s H Q ⟨M, r, S, en, rh, p⟩
  refine ⟨M, r, S, en, rh, (Post.bind (R := RA (gx X)) p).imp fun vs H1 h => ?_⟩
  obtain ⟨M1, xs, S1, e1, rh1, rd1, p1⟩ := h
  split at p1
  · rename_i hl
    refine ⟨by rw [← rd1.len]; exact hl, fun q hq => ?_⟩
    refine p1 M1 _ _ (Ext.other hq) (rh1.other hq) ⟨q, vs, rfl, upd_same, rd1, rh1.noloc hq, rh1.nolst hq, ?_⟩
    cases z : H q with
    | none => rfl
    | some o =>
      obtain ⟨o', z'⟩ := e1.there q o z
      rw [hq] at z'; cases z'
  · exact p1.elim
end
/-! ### what is walked -/
/-- an iterator that walks these -/
def WalkOk (G : Gx) (M : Mp) (J : It) (w : Wk) : Prop := ∀ (i : Nat) (M1 : Mp) (S : Store) (H : Hp), Le M M1 → RelH G M1 S H → w.ok S →
  (i < w.xs.length → J.go i H ∧ ∀ x H', J.yld i H x H' → ∃ M2 d, Ext M1 H M2 H' ∧ RelH G M2 S H' ∧ w.xs[i]? = some d ∧ RelD G M2 d x) ∧ (w.xs.length ≤ i → J.stop i H)
def RW (G : Gx) : Mp → Hp → Wk → It → Prop := fun M _ w J => WalkOk G M J w ∧ w.xs.length ≤ sizeLine
def tI (G : Gx) (W : WX) (d : DI) : TI := fun s H R => ∃ M r S, EnvR G M H r s ∧ RelH G M S H ∧ Post G (RW G) W M H s (d r S) R
abbrev SI (X : Cx) (W : WX) (tg e : Expr) (d : DI) : Prop := PI X tg e (tI (gx X) W d)
theorem PI_dimp {X : Cx} {tg e : Expr} {t t' : TI} (h : PI X tg e t) (k : ∀ s H R, t' s H R → t s H R) : PI X tg e t' := ⟨fun pins st s H R I q => h.run pins st s H R I (k s H R q)⟩
/-- how a list lies that is walked -/
def LstAt (G : Gx) (M : Mp) (w : Wk) (p : Addr) : Prop := ∀ (M1 : Mp) (S : Store) (H : Hp), Le M M1 → RelH G M1 S H → w.ok S → ∃ vs, SqL G.K H p vs ∧ RelDs G M1 w.xs vs
theorem lst_at {G : Gx} {M : Mp} {S : Store} {H : Hp} {d : D} {v : V} {w : Wk} (rh : RelH G M S H) (rd : RelD G M d v) (h : wkL S d = some w) : ∃ p vs, v = .ref p ∧ LstAt G M w p ∧ SqL G.K H p vs ∧ RelDs G M w.xs vs := by
  cases d with
  | lst xs =>
    cases h
    obtain ⟨p, vs, rfl, h1, h2⟩ := rd
    exact ⟨p, vs, rfl, fun M1 S1 H1 le rh1 _ => ⟨vs, rh1.sq (h1.imp (le.lst p vs) id), RelDs.le le h2⟩, rh.sq h1, h2⟩
  | ref l =>
    obtain ⟨p, rfl, h1⟩ := rd
    dsimp only [wkL, wkOf] at h
    split at h
    · rename_i xs q
      cases h
      obtain ⟨a, e1, vs, e2, e3⟩ := rh.obj l _ q
      rw [h1] at e1; cases e1
      refine ⟨p, vs, rfl, fun M1 S1 H1 le rh1 hk => ?_, .inl (.inl e2), e3⟩
      obtain ⟨a, x1, ws, x2, x3⟩ := rh1.obj l _ hk
      rw [le.loc l p h1] at x1; cases x1
      exact ⟨ws, .inl (.inl x2), x3⟩
    · cases h
  | _ => cases h
theorem walk_list {G : Gx} {M : Mp} {p : Addr} {w : Wk} (hl : LstAt G M w p) : WalkOk G M (Itl G.K p) w := by
  intro i M1 S H le rh hk
  obtain ⟨vs, hs, h2⟩ := hl M1 S H le rh hk
  refine ⟨fun hi => ?_, fun hi => ⟨vs, hs, by rw [← h2.len]; exact hi⟩⟩
  obtain ⟨d, hd⟩ : ∃ d, w.xs[i]? = some d := ⟨w.xs[i], by simp [hi]⟩
  obtain ⟨v, hv, rv⟩ := h2.get hd
  refine ⟨⟨vs, v, hs, hv⟩, fun x H' y => ?_⟩
  obtain ⟨rfl, y⟩ := y
  have := y vs hs
  rw [hv] at this
  cases this
  exact ⟨M1, d, Ext.refl, rh, hd, rv⟩
theorem walk_tup {G : Gx} {M : Mp} {p : Addr} {vs : List V} {xs : List D} (h1 : M.tup p = some vs) (h2 : RelDs G M xs vs) : WalkOk G M (Itt G.K p) (wkS xs) := by
  intro i M1 S H le rh _
  have hs : SqT G.K H p vs := .inl (.inl (rh.tup p vs (le.tup p vs h1)))
  refine ⟨fun hi => ?_, fun hi => ⟨vs, hs, by rw [← h2.len]; exact hi⟩⟩
  obtain ⟨d, hd⟩ : ∃ d, (wkS xs).xs[i]? = some d := ⟨(wkS xs).xs[i], by simp [hi]⟩
  obtain ⟨v, hv, rv⟩ := h2.get hd
  refine ⟨⟨vs, v, hs, hv⟩, fun x H' y => ?_⟩
  obtain ⟨rfl, y⟩ := y
  have := y vs hs
  rw [hv] at this
  cases this
  exact ⟨M1, d, Ext.refl, rh, hd, RelD.le le rv⟩
theorem walk_range {G : Gx} {M : Mp} (lo hi : Int) : WalkOk G M (Itr lo (hi - lo).toNat) (wkS (rangeD lo hi)) := by
  intro i M1 S H le rh _
  have hl : (wkS (rangeD lo hi)).xs.length = (hi - lo).toNat := by simp [rangeD, wkS]
  refine ⟨fun h => ?_, fun h => by show (hi - lo).toNat ≤ i; omega⟩
  refine ⟨by show i < (hi - lo).toNat; omega, fun x H' y => ?_⟩
  obtain ⟨rfl, rfl⟩ := y
  refine ⟨M1, .int (lo + i), Ext.refl, rh, ?_, rfl⟩
  rw [hl] at h
  simp [rangeD, wkS, h]
/-- a tuple or a list, whichever it is -/
def iSeq (K : PySem.W.Frag) (tl : TE) : TI := fun s H R => tl s H fun x H1 => ∃ a, x = .ref a ∧ ((∃ xs, SqL K H1 a xs ∧ (xs.length ≤ sizeLine → R (Itl K a) H1)) ∨ (∃ xs, SqT K H1 a xs ∧ (xs.length ≤ sizeLine → R (Itt K a) H1)))
theorem pi_seq {X : Cx} {tg l : Expr} {tl : TE} (hl : PE X l tl) : PI X tg l (iSeq X.K tl) := by
  refine ⟨fun pins s z H R I h => ?_⟩
  refine thn (hl.run pins s z H _ I h) fun v s1 ⟨x, H1, I1, r1, q1⟩ => ?_
  obtain ⟨a, e, q⟩ := q1
  subst e
  cases r1
  rcases q with ⟨xs, hq, q⟩ | ⟨xs, hq, q⟩
  · obtain ⟨its, rv, p, hz⟩ := I1.list hq
    replace q := q hz
    refine wpAny_pyIter_list p.isList ?_
    refine ⟨s1.heap.objs.size, [s1.heap.objs.size], _, _, H1, rfl, I1.kept (t' := s1.toks) fun b o e => Heap.get?_push_of_some _ e, turn_list a _, ⟨_, Heap.get?_push_size _ rfl, rfl, rfl⟩, fun b hb => ?_, q⟩
    have e : b = s1.heap.objs.size := by simpa using hb
    subst e
    exact I1.fpOk (Nat.le_refl _) (I1.hok.fresh (Nat.le_refl _))
  · obtain ⟨its, rv, p, hz⟩ := I1.tuple hq
    replace q := q hz
    refine wpAny_pyIter_tuple (show s1.heap.IsTuple a its.toArray from p) ?_
    refine ⟨s1.heap.objs.size, [s1.heap.objs.size], _, _, H1, rfl, I1.kept (t' := s1.toks) fun b o e => Heap.get?_push_of_some _ e, turn_tuple a _, ⟨_, Heap.get?_push_size _ rfl, rfl, rfl⟩, fun b hb => ?_, q⟩
    have e : b = s1.heap.objs.size := by simpa using hb
    subst e
    exact I1.fpOk (Nat.le_refl _) (I1.hok.fresh (Nat.le_refl _))
section
variable {X : Cx} {W : WX} {a b c e tg : Expr} {es : List Expr} {da db dc : DE} {ds : DA} {dl : DL} {pos : Pos}
theorem si_seq (h : SE X W a da) : SI X W tg a (iSeqD da) := by
  refine PI_dimp (pi_seq h) ?_
  rintro s H Q ⟨M, r, S, en, rh, p⟩
  refine ⟨M, r, S, en, rh, p.bind.imp fun v H1 h => ?_⟩
  obtain ⟨M1, x, S1, e1, rh1, rd1, p1⟩ := h
  have go : ∀ {w : Wk}, wkL S1 x = some w → Post (gx X) (RW (gx X)) W M1 H1 s (.ok w S1) Q → ∃ a, v = .ref a ∧ ((∃ xs, SqL X.K H1 a xs ∧ (xs.length ≤ sizeLine → Q (Itl X.K a) H1)) ∨ (∃ xs, SqT X.K H1 a xs ∧ (xs.length ≤ sizeLine → Q (Itt X.K a) H1))) := fun {w} hw p1 => by
    obtain ⟨q, vs, rfl, h1, h2, h3⟩ := lst_at rh1 rd1 hw
    exact ⟨q, rfl, .inl ⟨vs, h2, fun hz => p1 M1 _ H1 Ext.refl rh1 ⟨walk_list h1, by rw [h3.len]; exact hz⟩⟩⟩
  cases x with
  | tup xs =>
    obtain ⟨q, vs, rfl, h1, h2⟩ := rd1
    have h3 : SqT X.K H1 q vs := .inl (.inl (rh1.tup q vs h1))
    exact ⟨q, rfl, .inr ⟨vs, h3, fun hz => p1 M1 _ H1 Ext.refl rh1 ⟨walk_tup h1 h2, by show xs.length ≤ _; rw [h2.len]; exact hz⟩⟩⟩
  | lst xs => exact go rfl p1
  | ref l =>
    cases q : wkOf S1 (.ref l) with
    | none => rw [q] at p1; exact p1.elim
    | some w => rw [q] at p1; exact go q p1
  | _ => exact p1.elim
theorem enumD_at : ∀ (k : Nat) (xs : List D) (i : Nat), (enumD k xs)[i]? = (xs[i]?).map fun x => .tup [.int ((k + i : Nat) : Int), x]
  | _, [], _ => by simp [enumD]
  | k, x :: xs, 0 => by simp [enumD]
  | k, x :: xs, i + 1 => by
    simp only [enumD, List.getElem?_cons_succ]
    rw [enumD_at (k + 1) xs i]
    have : k + 1 + i = k + (i + 1) := by omega
    rw [this]
theorem enumD_len : ∀ (k : Nat) (xs : List D), (enumD k xs).length = xs.length
  | _, [] => rfl
  | k, _ :: xs => by simp [enumD, enumD_len (k + 1) xs]
theorem walk_enum {G : Gx} {M : Mp} {p : Addr} {w : Wk} (hl : LstAt G M w p) : WalkOk G M (Ite G.K p) ⟨enumD 0 w.xs, w.ok⟩ := by
  intro i M1 S H le rh hk
  obtain ⟨vs, hs, h2⟩ := hl M1 S H le rh hk
  refine ⟨fun hi => ?_, fun hi => ⟨vs, hs, by rw [← h2.len]; have hi : (enumD 0 w.xs).length ≤ i := hi; rw [enumD_len] at hi; exact hi⟩⟩
  have hi : i < (enumD 0 w.xs).length := hi
  rw [enumD_len] at hi
  obtain ⟨d, hd⟩ : ∃ d, w.xs[i]? = some d := ⟨w.xs[i], by simp [hi]⟩
  obtain ⟨v, hv, rv⟩ := h2.get hd
  refine ⟨⟨vs, v, hs, hv⟩, fun x H' y => ?_⟩
  obtain ⟨T, z, rfl, hT, rfl, y⟩ := y
  have := y vs hs
  rw [hv] at this
  cases this
  have rds : RelDs G M1 [.int (i : Nat), d] [.int (i : Nat), v] := RelDs.cons rfl (RelDs.cons rv rfl)
  obtain ⟨M2, x1, x2, x3⟩ := Ext.tupNew rh hT rds
  refine ⟨M2, .tup [.int (i : Nat), d], x1, x2, ?_, x3⟩
  show (enumD 0 w.xs)[i]? = _
  rw [enumD_at, hd]
  simp
theorem si_enum (h : PI X tg e (iEnum X.K (tCons (tE (gx X) W da) tNil))) : SI X W tg e (iEnumD da) := by
  refine PI_dimp h ?_
  rintro s H Q ⟨M, r, S, en, rh, p⟩
  refine ⟨M, r, S, en, rh, p.bind.imp fun v H1 h => ?_⟩
  obtain ⟨M1, x, S1, e1, rh1, rd1, p1⟩ := h
  cases q : wkL S1 x with
  | none => rw [q] at p1; exact p1.elim
  | some w =>
    rw [q] at p1
    obtain ⟨q, vs, rfl, h1, h2, h3⟩ := lst_at rh1 rd1 q
    dsimp only at p1
    split at p1
    · rename_i hz
      exact ⟨q, vs, rfl, h2, p1 M1 _ H1 Ext.refl rh1 ⟨walk_enum h1, by show (enumD 0 w.xs).length ≤ sizeLine; rw [enumD_len]; exact hz⟩⟩
    · exact p1.elim
theorem si_range1 (h : PI X tg e (iRng1 (tCons (tE (gx X) W da) tNil))) : SI X W tg e (iRange1 da) := by
  refine PI_dimp h ?_
  rintro s H Q ⟨M, r, S, en, rh, p⟩
  refine ⟨M, r, S, en, rh, p.bind.imp fun v H1 h => ?_⟩
  obtain ⟨M1, x, S1, e1, rh1, rd1, p1⟩ := h
  cases x with
  | int j =>
    cases (show _ = _ from rd1)
    dsimp only at p1
    split at p1
    · rename_i hc
      unfold rOk at hc
      simp only [Bool.and_eq_true, decide_eq_true_eq] at hc
      have w := walk_range (G := gx X) (M := M1) 0 j
      rw [Int.sub_zero] at w
      exact ⟨j, rfl, hc.1.1, hc.1.2, p1 M1 _ H1 Ext.refl rh1 ⟨w, by simp only [wkS, rangeD, List.length_map, List.length_range]; have := hc.2; omega⟩⟩
    · exact p1.elim
  | _ => exact p1.elim
theorem si_range2 (h : PI X tg e (iRng2 (tCons (tE (gx X) W da) (tCons (tE (gx X) W db) tNil)))) : SI X W tg e (iRange2 da db) := by
  refine PI_dimp h ?_
  rintro s H Q ⟨M, r, S, en, rh, p⟩
  refine ⟨M, r, S, en, rh, (bind2 en p).imp fun v H1 h => ?_⟩
  obtain ⟨M1, S1, e1, rh1, en1, p1⟩ := h
  refine ⟨M1, r, S1, en1, rh1, p1.imp fun u H2 h => ?_⟩
  obtain ⟨M2, x, y, S2, e2, rh2, en2, rd1, rd2, p2⟩ := h
  split at p2
  · rename_i i j
    split at p2
    · rename_i hc
      unfold rOk at hc
      simp only [Bool.and_eq_true, decide_eq_true_eq] at hc
      cases (show _ = _ from rd1)
      cases (show _ = _ from rd2)
      exact ⟨i, j, rfl, ⟨hc.1.1.1, hc.1.1.2, hc.1.2.1, hc.1.2.2⟩, p2 M2 _ H2 Ext.refl rh2 ⟨walk_range i j, by simp only [wkS, rangeD, List.length_map, List.length_range]; have := hc.2; omega⟩⟩
    · exact p2.elim
  · exact p2.elim
/-! ### targets -/
/-- some names got values -/
structure Upd (G : Gx) (M : Mp) (is : List Nat) (r : Rho) (s : L2.St) (r' : Rho) (s' : L2.St) : Prop where
  lr : r'.length = r.length
  ls : s'.length = s.length
  eq : ∀ (i : Nat), (r'[i]? = r[i]? ∧ s'[i]? = s[i]?) ∨ (i ∈ is ∧ ∃ d v, r'[i]? = some (Sl.val d) ∧ s'[i]? = some (some v) ∧ RelD G M d v)
theorem Upd.refl {G : Gx} {M : Mp} {is : List Nat} {r : Rho} {s : L2.St} : Upd G M is r s r s := ⟨rfl, rfl, fun _ => .inl ⟨rfl, rfl⟩⟩
theorem Upd.trans {G : Gx} {M : Mp} {is js : List Nat} {r r1 r2 : Rho} {s s1 s2 : L2.St} (a : Upd G M is r s r1 s1) (b : Upd G M js r1 s1 r2 s2) : Upd G M (is ++ js) r s r2 s2 :=
  ⟨b.lr.trans a.lr, b.ls.trans a.ls, fun i => by
    rcases b.eq i with ⟨h1, h2⟩ | ⟨hj, h⟩
    · rcases a.eq i with ⟨k1, k2⟩ | ⟨hi, d, v, k1, k2, k3⟩
      · exact .inl ⟨h1.trans k1, h2.trans k2⟩
      · exact .inr ⟨List.mem_append_left _ hi, d, v, h1.trans k1, h2.trans k2, k3⟩
    · exact .inr ⟨List.mem_append_right _ hj, h⟩⟩
theorem Upd.set {G : Gx} {M : Mp} {r : Rho} {s : L2.St} {i : Nat} {d : D} {v : V} (hl : r.length = s.length) (hi : i < r.length) (h : RelD G M d v) : Upd G M [i] r s (r.set i (.val d)) (s.set i (some v)) :=
  ⟨List.length_set, List.length_set, fun j => by
    by_cases e : j = i
    · subst e
      exact .inr ⟨by simp, d, v, List.getElem?_set_self hi, List.getElem?_set_self (by omega), h⟩
    · exact .inl ⟨List.getElem?_set_ne (Ne.symm e), List.getElem?_set_ne (Ne.symm e)⟩⟩
theorem EnvR.upd {G : Gx} {M : Mp} {H : Hp} {is : List Nat} {r r' : Rho} {s s' : L2.St} (h : EnvR G M H r s) (u : Upd G M is r s r' s') : EnvR G M H r' s' := by
  refine ⟨by rw [u.lr, u.ls]; exact h.len, fun i x q => ?_, fun i j xs ys a h1 h2 h3 h4 => ?_⟩
  · rcases u.eq i with ⟨e1, e2⟩ | ⟨_, d, v, e1, e2, e3⟩
    · rw [e1] at q
      rw [e2]
      exact h.sl i x q
    · rw [e1] at q
      cases q
      exact ⟨_, e2, v, rfl, e3⟩
  · have back : ∀ (k : Nat) (zs : List D), r'[k]? = some (Sl.own zs) → r[k]? = some (Sl.own zs) ∧ s'[k]? = s[k]? := fun k zs q => by
      rcases u.eq k with ⟨e1, e2⟩ | ⟨_, d, v, e1, _, _⟩
      · exact ⟨by rw [← e1]; exact q, e2⟩
      · rw [e1] at q; cases q
    obtain ⟨b1, b2⟩ := back i xs h1
    obtain ⟨b3, b4⟩ := back j ys h2
    exact h.apt i j xs ys a b1 b3 (b2 ▸ h3) (b4 ▸ h4)
theorem Wst.upd {G : Gx} {M0 : Mp} {H0 : Hp} {M : Mp} {H : Hp} {is : List Nat} {r r' : Rho} {S : Store} {s s' : L2.St} (h : Wst G M0 H0 M r S s H) (u : Upd G M is r s r' s') : Wst G M0 H0 M r' S s' H :=
  ⟨h.env.upd u, h.heap, h.ext, fun i xs a h1 h2 => by
    rcases u.eq i with ⟨e1, e2⟩ | ⟨_, d, v, e1, _, _⟩
    · exact h.own i xs a (by rw [← e1]; exact h1) (by rw [← e2]; exact h2)
    · rw [e1] at h1; cases h1⟩
def GOk (G : Gx) (is : List Nat) (g : TG) (d : DG) : Prop := ∀ (M : Mp) (H : Hp) (r r' : Rho) (s : L2.St) (S : Store) (x : D) (v : V) (Q : L2.St → Hp → Prop), r.length = s.length → RelH G M S H → RelD G M x v → d x r S = some r' →
  (∀ s', Upd G M is r s r' s' → Q s' H) → g v s H Q
def GsOk (G : Gx) (is : List Nat) (g : TGs) (d : List D → Rho → Store → Option Rho) : Prop := ∀ (M : Mp) (H : Hp) (r r' : Rho) (s : L2.St) (S : Store) (xs : List D) (vs : List V) (Q : L2.St → Hp → Prop), r.length = s.length → RelH G M S H → RelDs G M xs vs → d xs r S = some r' →
  (∀ s', Upd G M is r s r' s' → Q s' H) → g vs s H Q
theorem g_name {G : Gx} {i : Nat} : GOk G [i] (gName i) (gNameD i) := by
  intro M H r r' s S x v Q hl rh rd e k
  unfold gNameD at e
  split at e
  · rename_i hi
    cases e
    exact k _ (Upd.set hl hi rd)
  · cases e
theorem gs_nil {G : Gx} : GsOk G [] gNil gsNil := by
  intro M H r r' s S xs vs Q hl rh rd e k
  unfold gsNil at e
  cases xs with
  | nil =>
    cases e
    cases (show _ = _ from rd)
    exact ⟨rfl, k s Upd.refl⟩
  | cons _ _ => cases e
theorem gs_cons {G : Gx} {is js : List Nat} {g : TG} {h : TGs} {d : DG} {ds : List D → Rho → Store → Option Rho} (h1 : GOk G is g d) (h2 : GsOk G js h ds) : GsOk G (is ++ js) (gCons g h) (gsCons d ds) := by
  intro M H r r' s S xs vs Q hl rh rd e k
  unfold gsCons at e
  cases xs with
  | nil => cases e
  | cons x xs =>
    obtain ⟨v, vs', rfl, rd1, rd2⟩ := rd
    dsimp only at e
    cases q : d x r S with
    | none => rw [q] at e; cases e
    | some r1 =>
      rw [q] at e
      refine ⟨v, vs', rfl, h1 M H r r1 s S x v _ hl rh rd1 q fun s1 u1 => ?_⟩
      exact h2 M H r1 r' s1 S xs vs' Q (by rw [u1.lr, u1.ls]; exact hl) rh rd2 e fun s2 u2 => k s2 (u1.trans u2)
theorem g_tup {G : Gx} {n : Nat} {is : List Nat} {h : TGs} {ds : List D → Rho → Store → Option Rho} (h2 : GsOk G is h ds) : GOk G is (gTup G.K n h) (gTupD n ds) := by
  intro M H r r' s S x v Q hl rh rd e k
  unfold gTupD at e
  cases x with
  | tup xs =>
    dsimp only at e
    split at e
    · rename_i hn
      obtain ⟨p, vs, rfl, q1, q2⟩ := tup_ok rh rd
      exact ⟨p, vs, rfl, q1, by rw [← q2.len]; exact hn, h2 M H r r' s S xs vs Q hl rh q2 e k⟩
    · cases e
  | _ => cases e
end
/-! ### comprehensions -/
theorem wipe_at {s : L2.St} {i : Nat} : ∀ {vs : List Nat}, i ∈ vs → (wipe s vs)[i]? = if i < s.length then some none else none
  | [], h => absurd h (by simp)
  | v :: vs, h => by
    unfold wipe
    by_cases e : v = i
    · subst e
      by_cases hi : v < s.length
      · rw [if_pos hi, List.getElem?_set_self (by rw [wipe_length]; exact hi)]
      · rw [if_neg hi, List.getElem?_eq_none (by rw [List.length_set, wipe_length]; omega)]
    · rw [List.getElem?_set_ne e]
      exact wipe_at (by rcases List.mem_cons.mp h with z | z; exact absurd z.symm e; exact z)
theorem wipe_same {s s' : L2.St} {vs : List Nat} (hl : s'.length = s.length) (h : ∀ i, i ∉ vs → s'[i]? = (wipe s vs)[i]?) : wipe s' vs = wipe s vs := by
  apply List.ext_getElem?
  intro i
  by_cases hi : i ∈ vs
  · rw [wipe_at hi, wipe_at hi, hl]
  · rw [wipe_out hi, h i hi]
theorem wipeD_len {r : Rho} : ∀ {vs : List Nat}, (wipeD r vs).length = r.length
  | [] => rfl
  | v :: vs => by unfold wipeD; rw [List.length_set, wipeD_len]
theorem EnvR.wipe {G : Gx} {M : Mp} {H : Hp} {r : Rho} {s : L2.St} (h : EnvR G M H r s) : ∀ {vs : List Nat}, EnvR G M H (wipeD r vs) (L2.wipe s vs)
  | [] => h
  | v :: vs => by
    have ih := EnvR.wipe h (vs := vs)
    unfold wipeD L2.wipe
    refine ⟨by rw [List.length_set, List.length_set]; exact ih.len, fun i x q => ?_, fun i j xs ys a h1 h2 h3 h4 => ?_⟩
    · by_cases e : i = v
      · subst e
        have hi : i < (wipeD r vs).length := by
          have := (List.getElem?_eq_some_iff.mp q).1
          rwa [List.length_set] at this
        rw [List.getElem?_set_self hi] at q
        cases q
        exact ⟨none, List.getElem?_set_self (by rw [← ih.len]; exact hi), trivial⟩
      · rw [List.getElem?_set_ne (Ne.symm e)] at q ⊢
        exact ih.sl i x q
    · have back : ∀ (k : Nat) (zs : List D), ((wipeD r vs).set v .un)[k]? = some (Sl.own zs) → k ≠ v ∧ (wipeD r vs)[k]? = some (Sl.own zs) := fun k zs q => by
        by_cases e : k = v
        · subst e
          have hi : k < (wipeD r vs).length := by
            have := (List.getElem?_eq_some_iff.mp q).1
            rwa [List.length_set] at this
          rw [List.getElem?_set_self hi] at q
          cases q
        · rw [List.getElem?_set_ne (Ne.symm e)] at q
          exact ⟨e, q⟩
      obtain ⟨e1, b1⟩ := back i xs h1
      obtain ⟨e2, b2⟩ := back j ys h2
      rw [List.getElem?_set_ne (Ne.symm e1)] at h3
      rw [List.getElem?_set_ne (Ne.symm e2)] at h4
      exact ih.apt i j xs ys a b1 b2 h3 h4
theorem Post.noX {a b : Type} {a2 b2 : Type} {G : Gx} {R : Mp → Hp → a → b → Prop} {R2 : Mp → Hp → a2 → b2 → Prop} {W : WX} {M : Mp} {H : Hp} {s s' : L2.St} {Q2 : b2 → Hp → Prop} {x : Rs a} {f : a → Store → Rs a2} (h : Post G R2 W M H s ((noX x).bind f) Q2) :
    Post G R (fun _ _ _ _ => False) M H s' x fun y H1 => ∃ M1 v S1, Ext M H M1 H1 ∧ RelH G M1 S1 H1 ∧ R M1 H1 v y ∧ Post G R2 W M1 H1 s (f v S1) Q2 := by
  cases x with
  | ok v S => exact fun M1 y H1 e rh q => ⟨M1, v, S, e, rh, q, Post.mono e h⟩
  | exc c fs S => exact h.elim
  | bad => exact h
theorem Rs.bind_assoc {a b c : Type} (x : Rs a) (f : a → Store → Rs b) (g : b → Store → Rs c) : (x.bind f).bind g = x.bind fun v S => (f v S).bind g := by cases x <;> rfl
theorem Rs.bind_eta {a : Type} (x : Rs a) : (x.bind fun v S => .ok v S) = x := by cases x <;> rfl
/-- an object that no one knows changes -/
theorem RelH.unk {G : Gx} {M : Mp} {S : Store} {H : Hp} {p : Addr} {vs : List V} {o : HO} (rh : RelH G M S H) (hp : H p = some (.lst vs)) (n1 : ∀ l, M.loc l ≠ some p) (n2 : M.lst p = none) : RelH G M S (upd H p o) := by
  refine ⟨fun l x q => ?_, rh.dom, rh.inj, fun a x h => ?_, fun a x h => ?_, rh.apt, tabs_set rh.tabs hp (fun _ z => by cases z) fun _ _ => code_ne fun _ z => by cases z⟩
  · obtain ⟨a, e1, e2⟩ := rh.obj l x q
    refine ⟨a, e1, ?_⟩
    rw [upd_ne (fun z => n1 l (by rw [← z]; exact e1))]
    exact e2
  · have := rh.tup a x h
    have q : a ≠ p := fun q => by rw [q, hp] at this; cases this
    rw [upd_ne q]; exact this
  · have q : a ≠ p := fun q => by rw [q, n2] at h; cases h
    rcases rh.lst a x h with z | ⟨o, z⟩
    · exact .inl (by rw [upd_ne q]; exact z)
    · exact .inr ⟨o, by rw [upd_ne q]; exact z⟩
theorem Ext.unk {M M' : Mp} {H H' : Hp} {p : Addr} {o : HO} (e : Ext M H M' H') (hp : H p = none) : Ext M H M' (upd H' p o) := by
  have ne : ∀ b o, H b = some o → b ≠ p := fun b o h q => by rw [q, hp] at h; cases h
  exact ⟨e.loc, e.tup, e.lst, e.new, e.newl, fun a o h n t => by rw [upd_ne (ne a o h)]; exact e.keep a o h n t, fun a o h => by
    obtain ⟨o', h'⟩ := e.there a o h
    exact ⟨o', by rw [upd_ne (ne a o h)]; exact h'⟩⟩
theorem Post.noXb {a b : Type} {a2 b2 : Type} {G : Gx} {R : Mp → Hp → a → b → Prop} {R2 : Mp → Hp → a2 → b2 → Prop} {W : WX} {Mb M : Mp} {Hb H : Hp} {s s' : L2.St} {Q2 : b2 → Hp → Prop} {x : Rs a} {f : a → Store → Rs a2} (h : Post G R2 W Mb Hb s ((Dn.noX x).bind f) Q2) :
    Post G R (fun _ _ _ _ => False) M H s' x fun y H1 => ∃ M1 v S1, Ext M H M1 H1 ∧ RelH G M1 S1 H1 ∧ R M1 H1 v y ∧ Post G R2 W Mb Hb s (f v S1) Q2 := by
  cases x with
  | ok v S => exact fun M1 y H1 e rh q => ⟨M1, v, S, e, rh, q, h⟩
  | exc c fs S => exact h.elim
  | bad => exact h
/-- the reading of a comprehension -/
theorem lc_t {G : Gx} {W : WX} {di : DI} {g : TG} {d : DG} {dt : DT} {de : DE} {is vs : List Nat} {s : L2.St} {H : Hp} {Q : VK} (hg : GOk G is g d) (hv : ∀ i ∈ is, i ∈ vs) (h : tN G W (nLc di d dt de vs) s H Q) :
    tLc (tI G W di) g (tT G (fun _ _ _ _ => False) dt) (tE G (fun _ _ _ _ => False) de) vs s H Q := by
  obtain ⟨M, r, S, en, rh, p⟩ := h
  refine ⟨M, r, S, en, rh, (Post.bind (R := RW G) p).imp fun J H1 h => ?_⟩
  obtain ⟨M1, ⟨xs, ok⟩, S1, e1, rh1, ⟨wk, hz⟩, p1⟩ := h
  dsimp only at hz p1
  intro p0 hp0
  have en1 := (en.mono e1).wipe (vs := vs)
  have h0 : H p0 = none := by
    cases z : H p0 with
    | none => rfl
    | some o =>
      obtain ⟨o', z'⟩ := e1.there p0 o z
      rw [hp0] at z'; cases z'
  refine ⟨fun i m H2 => m = xs.length - i ∧ i ≤ xs.length ∧ ∃ M2 S2 acc ys, Ext M1 H1 M2 H2 ∧ RelH G M2 S2 H2 ∧ H2 p0 = some (.lst acc) ∧ RelDs G M2 ys acc ∧ (∀ l, M2.loc l ≠ some p0) ∧ M2.lst p0 = none ∧ acc.length ≤ i ∧
    Post G (RN G H) W M1 H1 s ((lcGo ok d dt de (wipeD r vs) (xs.drop i) S2).bind fun zs S => .ok (ys ++ zs) S) Q, ⟨xs.length, by simp, Nat.zero_le _, M1, S1, [], [], Ext.other hp0, rh1.other hp0, upd_same, RelDs.nil, rh1.noloc hp0, rh1.nolst hp0, Nat.zero_le _, ?_⟩, ?_⟩
  · simp only [List.drop_zero, List.nil_append]
    rw [Rs.bind_eta]
    exact p1
  rintro i m H2 ⟨rfl, hi, M2, S2, acc, ys, e2, rh2, hacc, rd2, n1, n2, hl, pp⟩
  have hok : ok S2 := by
    cases q : xs.drop i with
    | nil =>
      rw [q] at pp
      unfold lcGo at pp
      split at pp
      · assumption
      · exact pp.elim
    | cons _ _ =>
      rw [q] at pp
      unfold lcGo at pp
      split at pp
      · assumption
      · exact pp.elim
  obtain ⟨wgo, wstop⟩ := wk i M2 S2 H2 e2.le rh2 hok
  by_cases hlt : i < xs.length
  · refine .inr ⟨(wgo hlt).1, ?_⟩
    refine ⟨fun H' => i + 1 ≤ xs.length ∧ ∃ M2 S2 acc ys, Ext M1 H1 M2 H' ∧ RelH G M2 S2 H' ∧ H' p0 = some (.lst acc) ∧ RelDs G M2 ys acc ∧ (∀ l, M2.loc l ≠ some p0) ∧ M2.lst p0 = none ∧ acc.length ≤ i + 1 ∧
      Post G (RN G H) W M1 H1 s ((lcGo ok d dt de (wipeD r vs) (xs.drop (i + 1)) S2).bind fun zs S => .ok (ys ++ zs) S) Q, fun H' h => ⟨xs.length - (i + 1), by omega, rfl, h⟩, fun x H3 y => ?_⟩
    obtain ⟨M3, dx, e3, rh3, hdx, rd3⟩ := (wgo hlt).2 x H3 y
    have hdrop : xs.drop i = dx :: xs.drop (i + 1) := by
      have e : xs[i] = dx := by
        have := hdx
        rw [List.getElem?_eq_getElem hlt] at this
        exact Option.some.inj this
      rw [List.drop_eq_getElem_cons hlt, e]
    rw [hdrop] at pp
    unfold lcGo at pp
    rw [if_pos hok] at pp
    cases hgd : d dx (wipeD r vs) S2 with
    | none => rw [hgd] at pp; exact pp.elim
    | some r2 =>
      rw [hgd] at pp
      dsimp only at pp
      rw [Rs.bind_assoc] at pp
      have en3 := (en1.mono e2).mono e3
      refine hg M3 H3 (wipeD r vs) r2 (L2.wipe s vs) S2 dx x _ en3.len rh3 rd3 hgd fun s2 u => ⟨?_, ?_⟩
      · refine wipe_same (by rw [u.ls, wipe_length]) fun j hj => ?_
        rcases u.eq j with ⟨_, q⟩ | ⟨q, _⟩
        · exact q
        · exact absurd (hv j q) hj
      have keep : ∀ {M4 : Mp} {H4 : Hp}, Ext M2 H2 M4 H4 → H4 p0 = some (.lst acc) ∧ (∀ l, M4.loc l ≠ some p0) ∧ M4.lst p0 = none := fun {M4} {H4} e4 => by
        refine ⟨e4.keep _ _ hacc n1 (fun _ z => by cases z), fun l q => ?_, ?_⟩
        · rcases e4.new l p0 q with z | z
          · exact n1 l z
          · rw [hacc] at z; cases z
        · cases q : M4.lst p0 with
          | none => rfl
          | some z =>
            rcases e4.newl p0 z q with w | w
            · rw [n2] at w; cases w
            · rw [hacc] at w; cases w
      refine ⟨M3, r2, S2, en3.upd u, rh3, (Post.noXb (R := RB) pp).imp fun b H4 h => ?_⟩
      obtain ⟨M4, b', S4, e4, rh4, rb, p4⟩ := h
      obtain rfl : b' = b := rb
      cases b' with
      | false =>
        simp only [Bool.false_eq_true, if_false] at p4 ⊢
        obtain ⟨k1, k2, k3⟩ := keep (e3.trans e4)
        exact ⟨hlt, M4, S4, acc, ys, (e2.trans e3).trans e4, rh4, k1, rd2.mono (e3.trans e4), k2, k3, by omega, p4⟩
      | true =>
        simp only [if_true] at p4 ⊢
        rw [Rs.bind_assoc] at p4
        refine ⟨M4, r2, S4, (en3.upd u).mono e4, rh4, (Post.noXb (R := RD G) p4).imp fun v H5 h => ?_⟩
        obtain ⟨M5, y5, S5, e5, rh5, rv, p5⟩ := h
        have e25 := (e3.trans e4).trans e5
        obtain ⟨k1, k2, k3⟩ := keep e25
        refine ⟨acc, k1, by omega, hlt, M5, S5, acc ++ [v], ys ++ [y5], ((e2.trans e3).trans (e4.trans e5)).unk hp0, rh5.unk k1 k2 k3, upd_same, (rd2.mono e25).append (RelDs.nil.cons rv), k2, k3, by simp; omega, ?_⟩
        rw [Rs.bind_assoc] at p5
        simp only [Rs.bind_ok] at p5
        have p6 : Post G (RN G H) W M1 H1 s ((lcGo ok d dt de (wipeD r vs) (xs.drop (i + 1)) S5).bind fun zs S => .ok (ys ++ [y5] ++ zs) S) Q := by
          simpa only [List.append_assoc, List.singleton_append] using p5
        exact p6
  · have e : i = xs.length := by omega
    subst e
    refine .inl ⟨wstop (Nat.le_refl _), ?_⟩
    simp only [List.drop_length, lcGo, if_pos hok, Rs.bind_ok, List.append_nil] at pp
    exact pp M2 _ H2 e2 rh2 ⟨p0, acc, rfl, hacc, rd2, n1, n2, h0⟩
end Dn

end
section
set_option Elab.async false
set_option linter.all false
set_option maxRecDepth 100000
set_option maxHeartbeats 4000000
/-! The rules: statements. -/
namespace Dn
open PySem PySem.Spec PyProof.Rows L2
variable [Tb]
theorem RelFs.le {G : Gx} {M M' : Mp} (e : Le M M') : ∀ {fs : List (Str × D)} {vs : List (Str × V)}, RelFs G M fs vs → RelFs G M' fs vs
  | [], _, h => h
  | (f, d) :: fs, _, h => by
    obtain ⟨v, r, rfl, h1, h2⟩ := h
    exact ⟨v, r, rfl, RelD.le e h1, RelFs.le e h2⟩
section
variable {G : Gx} {M0 : Mp} {H0 : Hp} {W : WX} {D : Ends} {s : L2.St} {H : Hp} {da db : DE} {ds : DA} {dt : DT} {i : Nat}
/-! ### names -/
theorem set_t (h : tS G M0 H0 W (sSet i da) D s H) : tE G W da s H fun x H1 => D.nx (s.set i (some x)) H1 := by
  obtain ⟨M, r, S, w, p⟩ := h
  refine ⟨M, r, S, w.env, w.heap, (PostS.toS (R := RD G) w p).imp fun y H1 h => ?_⟩
  obtain ⟨M1, v, S1, w1, e1, rv, p1⟩ := h
  split at p1
  · rename_i hi
    exact p1 M1 _ H1 (w1.upd (Upd.set w1.env.len hi rv)) Le.refl
  · exact p1.elim
/-- a slot gets a new list of its own -/
theorem Wst.setOwn {M M1 : Mp} {r : Rho} {S S1 : Store} {H1 : Hp} {xs : List Dn.D} {y : V} (w : Wst G M0 H0 M r S s H) (e1 : Ext M H M1 H1) (w1 : Wst G M0 H0 M1 r S1 s H1) (rn : RN G H M1 H1 xs y) (hi : i < r.length) : Wst G M0 H0 M1 (r.set i (.own xs)) S1 (s.set i (some y)) H1 := by
  obtain ⟨p, vs, rfl, h1, h2, h3, h4, h5⟩ := rn
  have hl := w1.env.len
  have apart : ∀ (j : Nat) (ys : List Dn.D) (a : Addr), r[j]? = some (.own ys) → s[j]? = some (some (.ref a)) → a ≠ p := fun j ys a q1 q2 z => by
    obtain ⟨v, k1, k2⟩ := w.env.sl j _ q1
    rw [q2] at k1; cases k1
    obtain ⟨b, zs, k3, k4, _⟩ := k2
    cases k3
    rw [z, h5] at k4; cases k4
  refine ⟨⟨by rw [List.length_set, List.length_set]; exact hl, fun j x q => ?_, fun j k xs' ys' a q1 q2 q3 q4 => ?_⟩, w1.heap, w1.ext, fun j xs' a q1 q2 => ?_⟩
  · by_cases e : j = i
    · subst e
      rw [List.getElem?_set_self hi] at q
      cases q
      exact ⟨_, List.getElem?_set_self (by omega), p, vs, rfl, h1, h2, h3, h4⟩
    · rw [List.getElem?_set_ne (Ne.symm e)] at q ⊢
      exact w1.env.sl j x q
  · by_cases e : j = i <;> by_cases e2 : k = i
    · rw [e, e2]
    · subst e
      rw [List.getElem?_set_self (by omega)] at q3
      cases q3
      rw [List.getElem?_set_ne (Ne.symm e2)] at q2 q4
      exact absurd rfl (apart k _ _ q2 q4)
    · subst e2
      rw [List.getElem?_set_self (by omega)] at q4
      cases q4
      rw [List.getElem?_set_ne (Ne.symm e)] at q1 q3
      exact absurd rfl (apart j _ _ q1 q3)
    · rw [List.getElem?_set_ne (Ne.symm e)] at q1 q3
      rw [List.getElem?_set_ne (Ne.symm e2)] at q2 q4
      exact w1.env.apt j k _ _ a q1 q2 q3 q4
  · by_cases e : j = i
    · subst e
      rw [List.getElem?_set_self (by omega)] at q2
      cases q2
      cases z : H0 p with
      | none => rfl
      | some o =>
        obtain ⟨o', z'⟩ := w.ext.there p o z
        rw [h5] at z'; cases z'
    · rw [List.getElem?_set_ne (Ne.symm e)] at q1 q2
      exact w1.own j _ a q1 q2
theorem own_t (h : tS G M0 H0 W (sSetOwn i ds) D s H) : tN G W ds s H fun x H1 => D.nx (s.set i (some x)) H1 := by
  obtain ⟨M, r, S, w, p⟩ := h
  refine ⟨M, r, S, w.env, w.heap, (PostS.toS (R := RN G H) w p).imp fun y H1 h => ?_⟩
  obtain ⟨M1, v, S1, w1, e1, rv, p1⟩ := h
  split at p1
  · rename_i hi
    exact p1 M1 _ H1 (Wst.setOwn w e1 w1 rv hi) Le.refl
  · exact p1.elim
end
section
variable {X : Cx} {M0 : Mp} {H0 : Hp} {W : WX} {a b e : Expr} {es : List Expr} {da db : DE} {ds : DA} {dt : DT} {d1 d2 : DS} {pos : Pos} {st : Stmt} {rest : List Stmt}
theorem ss_nil : SSs X M0 H0 W [] sNext := by
  refine pss_nil.dimp ?_
  rintro D s H ⟨M, r, S, w, p⟩
  exact p M s H w Le.refl
theorem ss_cons (h1 : SS X M0 H0 W st d1) (h2 : SSs X M0 H0 W rest d2) : SSs X M0 H0 W (st :: rest) (sSeq d1 d2) := by
  refine (pss_cons h1 h2).dimp ?_
  rintro D s H ⟨M, r, S, w, p⟩
  refine ⟨M, r, S, w, ?_⟩
  unfold sSeq at p
  cases q : d1 r S with
  | next r1 S1 =>
    rw [q] at p
    exact fun M1 s1 H1 w1 l1 => ⟨M1, r1, S1, w1, PostS.le p l1⟩
  | ret d r1 S1 => rw [q] at p; exact p
  | brk r1 S1 => rw [q] at p; exact p
  | cont r1 S1 => rw [q] at p; exact p
  | exc c fs r1 S1 => rw [q] at p; exact p
  | bad => rw [q] at p; exact p
theorem ss_one (h1 : SS X M0 H0 W st d1) : SSs X M0 H0 W [st] d1 := pss_one h1
theorem ss_pass : SS X M0 H0 W (.Pass pos) sNext := by
  refine ps_pass.dimp ?_
  rintro D s H ⟨M, r, S, w, p⟩
  exact p M s H w Le.refl
theorem ss_brk : SS X M0 H0 W (.Break pos) sBrk := by
  refine ps_break.dimp ?_
  rintro D s H ⟨M, r, S, w, p⟩
  exact p M s H w Le.refl
theorem ss_cnt : SS X M0 H0 W (.Continue pos) sCnt := by
  refine ps_continue.dimp ?_
  rintro D s H ⟨M, r, S, w, p⟩
  exact p M s H w Le.refl
theorem ss_bad : SS X M0 H0 W st sBad := by
  refine ps_never.dimp ?_
  rintro D s H ⟨M, r, S, w, p⟩
  exact p.elim
theorem ss_doc {x j pos pos'} : SS X M0 H0 W (.Expr (.Constant (.str x) j pos) pos') sNext := by
  refine ps_doc.dimp ?_
  rintro D s H ⟨M, r, S, w, p⟩
  exact p M s H w Le.refl
theorem ss_set {i : Nat} {x : Str} {pos' : Pos} (hN : X.N.Nodup) (hi : X.N[i]? = some x) (hx : Loc X.env.scope x) (he : SE X W e da) (hf : X.fn x = true ∨ X.env.scope.names.lookup x = some .local) (hs : swapsWith e (some (.Name x pos')) pos.line X.env = pure false := by rfl) :
    SS X M0 H0 W (.Assign [.Name x pos'] e pos) (sSet i da) := (ps_set hN hi hx he hs hf).dimp fun _ _ _ => set_t
theorem ss_own {i : Nat} {x : Str} {pos' : Pos} (hN : X.N.Nodup) (hi : X.N[i]? = some x) (hx : Loc X.env.scope x) (he : SN X W e ds) (hf : X.fn x = true ∨ X.env.scope.names.lookup x = some .local) (hs : swapsWith e (some (.Name x pos')) pos.line X.env = pure false := by rfl) :
    SS X M0 H0 W (.Assign [.Name x pos'] e pos) (sSetOwn i ds) := (ps_set hN hi hx he hs hf).dimp fun _ _ _ => own_t
/-- name = [.. for ..] on one line -/
theorem ss_lcO {i : Nat} {tl : TE} (h : PS X st (tAsg tl (gName i))) (k : ∀ s H Q, tN (gx X) W ds s H Q → tl s H Q) : SS X M0 H0 W st (sSetOwn i ds) := h.dimp fun _ _ _ q => k _ _ _ (own_t q)
theorem ss_lcF {i : Nat} {tl : TE} (h : PS X st (tAsg tl (gName i))) (k : ∀ s H Q, tN (gx X) W ds s H Q → tl s H Q) : SS X M0 H0 W st (sSet i (eFrz ds)) := h.dimp fun _ _ _ q => k _ _ _ (frz_t (set_t q))
theorem ss_lcN {i : Nat} {tl : TE} (h : PS X st (tAsg tl (gName i))) (k : ∀ s H Q, tN (gx X) W ds s H Q → tl s H Q) : SS X M0 H0 W st (sSet i (eNew ds)) := h.dimp fun _ _ _ q => k _ _ _ (new_t (set_t q))
/-- as a value -/
theorem sn_lc {tl : TE} (h : PE X e tl) (k : ∀ s H Q, tN (gx X) W ds s H Q → tl s H Q) : SN X W e ds := h.dimp k
theorem ss_asg {tg : Expr} {is : List Nat} {g : TG} {d : DG} (he : SE X W e da) (hg : PG X tg g) (k : GOk (gx X) is g d) (hs : swapsWithSole [tg] e pos.line X.env = pure false := by rfl) (hw : swappedStores [tg] e X.env = pure none := by rfl)
    (h1 : (assignEach [tg] X.env).map (·.2) = [assign tg X.env] := by rfl) : SS X M0 H0 W (.Assign [tg] e pos) (sAsg da d) := by
  refine (ps_asg he hg hs hw h1).dimp ?_
  rintro D s H ⟨M, r, S, w, p⟩
  refine ⟨M, r, S, w.env, w.heap, (PostS.toS (R := RD (gx X)) w p).imp fun y H1 h => ?_⟩
  obtain ⟨M1, v, S1, w1, e1, rv, p1⟩ := h
  cases q : d v r S1 with
  | none => rw [q] at p1; exact p1.elim
  | some r1 =>
    rw [q] at p1
    exact k M1 H1 r r1 s S1 v y D.nx w1.env.len w1.heap rv q fun s2 u => p1 M1 s2 H1 (w1.upd u) Le.refl
/-- a, b = x, y -/
theorem ss_par {i j : Nat} (h : PS X st (tPar i j (tCons (tE (gx X) W da) (tCons (tE (gx X) W db) tNil)))) (hij : i ≠ j) : SS X M0 H0 W st (sPar i j da db) := by
  refine h.dimp ?_
  rintro D s H ⟨M, r, S, w, p⟩
  refine ⟨M, r, S, w.env, w.heap, (PostS.toS (R := RD (gx X)) w p).imp fun y H1 h => ?_⟩
  obtain ⟨M1, v, S1, w1, e1, rv, p1⟩ := h
  refine ⟨M1, r, S1, w1.env, w1.heap, (PostS.toS (R := RD (gx X)) w1 p1).imp fun z H2 h => ?_⟩
  obtain ⟨M2, u, S2, w2, e2, ru, p2⟩ := h
  split at p2
  · rename_i hi
    refine ⟨y, z, rfl, p2 M2 _ H2 ?_ Le.refl⟩
    have w3 := w2.upd (Upd.set w2.env.len hi.1 (rv.mono e2))
    exact w3.upd (Upd.set w3.env.len (by rw [List.length_set]; exact hi.2) ru)
  · exact p2.elim
theorem ss_drop (he : SE X W e da) (hs : swapsWith e none pos.line X.env = pure false := by rfl) : SS X M0 H0 W (.Expr e pos) (sDrop da) := by
  refine (ps_expr he hs).dimp ?_
  rintro D s H ⟨M, r, S, w, p⟩
  refine ⟨M, r, S, w.env, w.heap, (PostS.toS (R := RD (gx X)) w p).imp fun y H1 h => ?_⟩
  obtain ⟨M1, v, S1, w1, e1, rv, p1⟩ := h
  exact p1 M1 s H1 w1 Le.refl
theorem ss_ret (he : SE X W e da) : SS X M0 H0 W (.Return (some e) pos) (sRet da) := by
  refine (ps_ret he).dimp ?_
  rintro D s H ⟨M, r, S, w, p⟩
  refine ⟨M, r, S, w.env, w.heap, (PostS.toS (R := RD (gx X)) w p).imp fun y H1 h => ?_⟩
  obtain ⟨M1, v, S1, w1, e1, rv, p1⟩ := h
  exact p1 M1 y s H1 w1 Le.refl rv
theorem ss_retN : SS X M0 H0 W (.Return none pos) sRetN := by
  refine ps_retN.dimp ?_
  rintro D s H ⟨M, r, S, w, p⟩
  exact p M .non s H w Le.refl rfl
/-- a list of its own changes no more -/
theorem Wst.frz {G : Gx} {M : Mp} {r : Rho} {S : Store} {s : L2.St} {H : Hp} {i : Nat} {xs : List D} (w : Wst G M0 H0 M r S s H) (nl : noLam r = true) (q : r[i]? = some (.own xs)) : ∃ (M2 : Mp) (p : Addr), s[i]? = some (some (.ref p)) ∧ Le M M2 ∧ RelD G M2 (.lst xs) (.ref p) ∧
    (∀ z : Sl, (z = .un ∨ z = .val (.lst xs)) → Wst G M0 H0 M2 (r.set i z) S s H) := by
  obtain ⟨v, e1, p, vs, e2, e3, e4, e5, e6⟩ := w.env.sl i _ q
  subst e2
  have hi : i < r.length := (List.getElem?_eq_some_iff.mp q).1
  have h0 : H0 p = none := w.own i xs p q e1
  obtain ⟨M2, x1, x2, x3, le, hloc, hlst⟩ := frz_new (H := H0) (M := M0) w.ext w.heap e3 e4 e5 e6 h0
  refine ⟨M2, p, e1, le, x3, fun z hz => ?_⟩
  have back : ∀ (j : Nat) (ys : List D), (r.set i z)[j]? = some (Sl.own ys) → j ≠ i ∧ r[j]? = some (Sl.own ys) := fun j ys k => by
    by_cases e : j = i
    · subst e
      rw [List.getElem?_set_self hi] at k
      rcases hz with z1 | z1 <;> (rw [z1] at k; cases k)
    · rw [List.getElem?_set_ne (Ne.symm e)] at k
      exact ⟨e, k⟩
  refine ⟨⟨by rw [List.length_set]; exact w.env.len, fun j x k => ?_, fun j k xs' ys' a q1 q2 q3 q4 => ?_⟩, x2, x1, fun j ys a q1 q2 => w.own j ys a (back j ys q1).2 q2⟩
  · by_cases e : j = i
    · subst e
      rw [List.getElem?_set_self hi] at k
      rcases hz with z1 | z1
      · rw [z1] at k; cases k
        exact ⟨_, e1, trivial⟩
      · rw [z1] at k; cases k
        exact ⟨_, e1, _, rfl, x3⟩
    · rw [List.getElem?_set_ne (Ne.symm e)] at k
      obtain ⟨v, k1, k2⟩ := w.env.sl j x k
      refine ⟨v, k1, ?_⟩
      cases x with
      | un => trivial
      | val d =>
        obtain ⟨u, y1, y2⟩ := k2
        exact ⟨u, y1, RelD.le le y2⟩
      | own ys =>
        obtain ⟨a, ws, y1, y2, y3, y4, y5⟩ := k2
        subst y1
        have ne : a ≠ p := fun z1 => by
          subst z1
          exact e (w.env.apt j i ys xs a k q k1 e1)
        exact ⟨a, ws, rfl, y2, RelDs.le le y3, by rw [hloc]; exact y4, by rw [hlst a ne]; exact y5⟩
      | ownd _ _ => exact k2
      | exc _ _ =>
        obtain ⟨a, oe, C, dx, y1, y2, y3, y4, y5, y6⟩ := k2
        refine ⟨a, oe, C, dx, y1, y2, y3, y4, y5, ?_⟩
        rcases y6 with z | ⟨d, vfs, z1, z2, z3, z4⟩
        · exact .inl z
        · exact .inr ⟨d, vfs, z1, z2, RelFs.le le z3, by rw [hloc]; exact z4⟩
      | lam =>
        unfold noLam at nl
        have z := List.all_eq_true.mp nl _ (List.mem_of_getElem? k)
        cases z
  · exact w.env.apt j k xs' ys' a (back j _ q1).2 (back k _ q2).2 q3 q4
theorem ss_retOwn {i : Nat} {x : Str} {p2 : Pos} (hN : X.N[i]? = some x) (hv : Vis X.env.scope x) (hd : (x == ("__debug__" : Str)) = false := by decide) (hcd : (x == ("__classdict__" : Str)) = false := by decide) : SS X M0 H0 W (.Return (some (.Name x p2)) pos) (sRetOwn i) := by
  refine (ps_ret (pe_var (i := i) hN hv hd hcd)).dimp ?_
  rintro D s H ⟨M, r, S, w, p⟩
  unfold sRetOwn at p
  cases q : r[i]? with
  | none => rw [q] at p; exact p.elim
  | some z =>
    rw [q] at p
    cases z with
    | own xs =>
      dsimp only at p
      split at p
      case isFalse => exact p.elim
      rename_i nl
      obtain ⟨M2, a, h1, le, rd, k⟩ := w.frz nl q
      exact ⟨.ref a, h1, p M2 _ s H (k _ (.inl rfl)) le rd⟩
    | un => exact p.elim
    | val _ => exact p.elim
    | ownd _ _ => exact p.elim
    | exc _ _ => exact p.elim
    | lam => exact p.elim
/-- a list that changes no more, ahead of a statement -/
theorem ss_frz {i : Nat} (h : SS X M0 H0 W st d1) : SS X M0 H0 W st (sSeq (sFrz i) d1) := by
  refine h.dimp ?_
  rintro D s H ⟨M, r, S, w, p⟩
  unfold sSeq sFrz at p
  cases q : r[i]? with
  | none => rw [q] at p; exact p.elim
  | some z =>
    rw [q] at p
    cases z with
    | own xs =>
      dsimp only at p
      split at p
      case isFalse => exact p.elim
      rename_i nl
      obtain ⟨M2, a, h1, le, rd, k⟩ := w.frz nl q
      exact ⟨M2, _, S, k _ (.inr rfl), PostS.le p le⟩
    | un => exact p.elim
    | val _ => exact p.elim
    | ownd _ _ => exact p.elim
    | exc _ _ => exact p.elim
    | lam => exact p.elim
theorem ss_if {c : Expr} {sa sb : List Stmt} (hc : ST X W c dt) (ha : SSs X M0 H0 W sa d1) (hb : SSs X M0 H0 W sb d2) : SS X M0 H0 W (.If c sa sb pos) (sIf dt d1 d2) := by
  refine (ps_if hc ha hb).dimp ?_
  rintro D s H ⟨M, r, S, w, p⟩
  refine ⟨M, r, S, w.env, w.heap, (PostS.toS (R := RB) w p).imp fun y H1 h => ?_⟩
  obtain ⟨M1, v, S1, w1, e1, rv, p1⟩ := h
  obtain rfl : v = y := rv
  cases v with
  | true => exact ⟨M1, r, S1, w1, p1⟩
  | false => exact ⟨M1, r, S1, w1, p1⟩
/-! ### loops -/
theorem ss_for {tg iter : Expr} {body : List Stmt} {di : DI} {g : TG} {d : DG} {is : List Nat} {db' : DS} (hp : PassesOwn (model X.prog X.w) X.A X.env X.xe) (hc : X.calm = true) (hi : SI X W tg iter di) (hg : PG X tg g) (k : GOk (gx X) is g d) (hb : SSs X M0 H0 W body db')
    (hs : ∀ x, foldedSetIterable iter X.env x = pure x := by intro _; rfl) : SS X M0 H0 W (.For tg iter body [] pos) (sFor di d db') := by
  refine (ps_for hp hc hi hg hb hs).dimp ?_
  rintro D s H ⟨M, r, S, w, p⟩
  refine ⟨M, r, S, w.env, w.heap, (PostS.toS (R := RW (gx X)) w p).imp fun J H1 h => ?_⟩
  obtain ⟨M1, ⟨xs, ok⟩, S1, w1, e1, ⟨wk, hz⟩, p1⟩ := h
  dsimp only at hz p1
  refine ⟨fun i m s2 H2 => m = xs.length - i ∧ i ≤ xs.length ∧ ∃ M2 r2 S2, Wst (gx X) M0 H0 M2 r2 S2 s2 H2 ∧ Le M1 M2 ∧ PostS (gx X) M0 H0 W M2 (forGo ok d db' (xs.drop i) r2 S2) D, ⟨xs.length, by simp, Nat.zero_le _, M1, r, S1, w1, Le.refl, by rw [List.drop_zero]; exact p1⟩, ?_⟩
  rintro i m s2 H2 ⟨rfl, hi, M2, r2, S2, w2, l2, pp⟩
  have hok : ok S2 := by
    cases q : xs.drop i with
    | nil =>
      rw [q] at pp
      unfold forGo at pp
      split at pp
      · assumption
      · exact pp.elim
    | cons _ _ =>
      rw [q] at pp
      unfold forGo at pp
      split at pp
      · assumption
      · exact pp.elim
  obtain ⟨wgo, wstop⟩ := wk i M2 S2 H2 l2 w2.heap hok
  by_cases hlt : i < xs.length
  · refine .inr ⟨(wgo hlt).1, ?_⟩
    refine ⟨fun s' H' => i + 1 ≤ xs.length ∧ ∃ M2 r2 S2, Wst (gx X) M0 H0 M2 r2 S2 s' H' ∧ Le M1 M2 ∧ PostS (gx X) M0 H0 W M2 (forGo ok d db' (xs.drop (i + 1)) r2 S2) D, fun s' H' h => ⟨xs.length - (i + 1), by omega, rfl, h⟩, fun x H3 y => ?_⟩
    obtain ⟨M3, dx, e3, rh3, hdx, rd3⟩ := (wgo hlt).2 x H3 y
    have hdrop : xs.drop i = dx :: xs.drop (i + 1) := by
      have e : xs[i] = dx := by
        have hdx : xs[i]? = some dx := hdx
        rw [List.getElem?_eq_getElem hlt] at hdx
        exact Option.some.inj hdx
      rw [List.drop_eq_getElem_cons hlt, e]
    rw [hdrop] at pp
    unfold forGo at pp
    rw [if_pos hok] at pp
    cases hgd : d dx r2 S2 with
    | none => rw [hgd] at pp; exact pp.elim
    | some r3 =>
      rw [hgd] at pp
      dsimp only at pp
      have w3 := w2.mono e3 rh3
      refine k M3 H3 r2 r3 s2 S2 dx x _ w3.env.len rh3 rd3 hgd fun s4 u => ?_
      refine ⟨M3, r3, S2, w3.upd u, ?_⟩
      have l3 := l2.trans e3.le
      cases q : db' r3 S2 with
      | next r4 S4 =>
        rw [q] at pp
        exact fun M4 s5 H5 w5 l5 => ⟨hlt, M4, r4, S4, w5, l3.trans l5, PostS.le pp (e3.le.trans l5)⟩
      | cont r4 S4 =>
        rw [q] at pp
        exact fun M4 s5 H5 w5 l5 => ⟨hlt, M4, r4, S4, w5, l3.trans l5, PostS.le pp (e3.le.trans l5)⟩
      | brk r4 S4 =>
        rw [q] at pp
        exact fun M4 s5 H5 w5 l5 => pp M4 s5 H5 w5 (e3.le.trans l5)
      | ret v r4 S4 =>
        rw [q] at pp
        exact fun M4 z s5 H5 w5 l5 rz => pp M4 z s5 H5 w5 (e3.le.trans l5) rz
      | exc c fs r4 S4 =>
        rw [q] at pp
        exact fun M4 s5 H5 C dx w5 l5 => pp M4 s5 H5 C dx w5 (e3.le.trans l5)
      | bad => rw [q] at pp; exact pp.elim
  · have e : i = xs.length := by omega
    subst e
    refine .inl ⟨wstop (Nat.le_refl _), ?_⟩
    simp only [List.drop_length, forGo, if_pos hok] at pp
    exact pp M2 s2 H2 w2 Le.refl
theorem ss_while {c : Expr} {body : List Stmt} {n : Nat} {db' : DS} (hp : PassesOwn (model X.prog X.w) X.A X.env X.xe) (hc : ST X W c dt) (hb : SSs X M0 H0 W body db') : SS X M0 H0 W (.While c body [] pos) (sWhile n dt db') := by
  refine (ps_while hp hc hb).dimp ?_
  rintro D s H ⟨M, r, S, w, p⟩
  refine ⟨fun m s2 H2 => ∃ M2 r2 S2, Wst (gx X) M0 H0 M2 r2 S2 s2 H2 ∧ Le M M2 ∧ PostS (gx X) M0 H0 W M2 (whileGo dt db' m r2 S2) D, ⟨n, M, r, S, w, Le.refl, p⟩, ?_⟩
  rintro m s2 H2 ⟨M2, r2, S2, w2, l2, pp⟩
  cases m with
  | zero => exact pp.elim
  | succ m =>
    unfold whileGo at pp
    refine ⟨M2, r2, S2, w2.env, w2.heap, (PostS.toS (R := RB) w2 pp).imp fun y H3 h => ?_⟩
    obtain ⟨M3, v, S3, w3, e3, rv, p3⟩ := h
    obtain rfl : v = y := rv
    cases v with
    | false => exact p3 M3 s2 H3 w3 Le.refl
    | true =>
      simp only [if_true] at p3 ⊢
      have l3 := l2.trans e3.le
      refine ⟨fun s' H' => ∃ M2 r2 S2, Wst (gx X) M0 H0 M2 r2 S2 s' H' ∧ Le M M2 ∧ PostS (gx X) M0 H0 W M2 (whileGo dt db' m r2 S2) D, fun s' H' h => ⟨m, Nat.lt_succ_self m, h⟩, M3, r2, S3, w3, ?_⟩
      cases q : db' r2 S3 with
      | next r4 S4 =>
        rw [q] at p3
        exact fun M4 s5 H5 w5 l5 => ⟨M4, r4, S4, w5, l3.trans l5, PostS.le p3 l5⟩
      | cont r4 S4 =>
        rw [q] at p3
        exact fun M4 s5 H5 w5 l5 => ⟨M4, r4, S4, w5, l3.trans l5, PostS.le p3 l5⟩
      | brk r4 S4 =>
        rw [q] at p3
        exact fun M4 s5 H5 w5 l5 => p3 M4 s5 H5 w5 l5
      | ret v r4 S4 =>
        rw [q] at p3
        exact fun M4 z s5 H5 w5 l5 rz => p3 M4 z s5 H5 w5 l5 rz
      | exc c fs r4 S4 =>
        rw [q] at p3
        exact fun M4 s5 H5 C dx w5 l5 => p3 M4 s5 H5 C dx w5 l5
      | bad => rw [q] at p3; exact p3.elim
end
end Dn

end
section
set_option Elab.async false
set_option linter.all false
set_option maxRecDepth 100000
set_option maxHeartbeats 4000000
/-! The rules: changing objects; defs. -/
namespace Dn
open PySem PySem.Spec PyProof.Rows L2
variable [Tb]
theorem ObjR.le {G : Gx} {M M' : Mp} (e : Le M M') {o : SO} {x : Option HO} (h : ObjR G M o x) : ObjR G M' o x := by
  cases o with
  | lst ds => obtain ⟨vs, h1, h2⟩ := h; exact ⟨vs, h1, RelDs.le e h2⟩
  | ins c fs => obtain ⟨C, dx, vfs, h1, h2, h3⟩ := h; exact ⟨C, dx, vfs, h1, h2, RelFs.le e h3⟩
  | dct _ _ => exact DctR.map (fun _ _ q => RelD.le e q) h
theorem ObjR.some {G : Gx} {M : Mp} {o : SO} {x : Option HO} (h : ObjR G M o x) : ∃ u, x = .some u ∧ (∀ vs, u ≠ .tup vs) ∧ (∀ ps, u ≠ .tbl ps) ∧ ∀ φ, u ≠ .ext φ := by
  cases o with
  | lst ds => obtain ⟨vs, h1, h2⟩ := h; exact ⟨_, h1, (fun _ z => by cases z), (fun _ z => by cases z), (fun _ z => by cases z)⟩
  | ins c fs => obtain ⟨C, dx, vfs, h1, h2, h3⟩ := h; exact ⟨_, h1, (fun _ z => by cases z), (fun _ z => by cases z), (fun _ z => by cases z)⟩
  | dct _ _ => rcases h with ⟨_, _, h, _⟩ | ⟨_, _, h, _⟩ <;> exact ⟨_, h, (fun _ z => by cases z), (fun _ z => by cases z), (fun _ z => by cases z)⟩
/-- a numbered object changes -/
theorem RelH.put {G : Gx} {M : Mp} {S : Store} {H : Hp} {l : Nat} {a : Addr} {o o' : SO} {ho : HO} (rh : RelH G M S H) (hl : M.loc l = some a) (hs : S[l]? = some o) (h' : ObjR G M o' (some ho)) : RelH G M (S.set l o') (upd H a ho) ∧ Ext M H M (upd H a ho) := by
  obtain ⟨a', e1, e2⟩ := rh.obj l o hs
  rw [hl] at e1; cases e1
  obtain ⟨u, e3, e4, e5, e6⟩ := e2.some
  have hlt : l < S.length := (List.getElem?_eq_some_iff.mp hs).1
  refine ⟨⟨fun k x q => ?_, fun k b q => by rw [List.length_set]; exact rh.dom k b q, rh.inj, fun b vs q => ?_, fun b vs q => ?_, rh.apt, tabs_set rh.tabs e3 e5 fun _ _ => code_ne e6⟩, fun _ _ h => h, fun _ _ h => h, fun _ _ h => h, fun _ _ h => .inl h, fun _ _ h => .inl h, fun b x q n _ => ?_, fun b x q => ?_⟩
  · by_cases e : k = l
    · subst e
      rw [List.getElem?_set_self hlt] at q
      cases q
      exact ⟨a, hl, by rw [upd_same]; exact h'⟩
    · rw [List.getElem?_set_ne (Ne.symm e)] at q
      obtain ⟨b, x1, x2⟩ := rh.obj k x q
      refine ⟨b, x1, ?_⟩
      rw [upd_ne (fun z => e (rh.inj k l b x1 (by rw [z]; exact hl)))]
      exact x2
  · have := rh.tup b vs q
    rw [upd_ne (fun z => by rw [z, e3] at this; cases this; exact e4 vs rfl)]
    exact this
  · have ne : b ≠ a := fun z => rh.apt b vs l q (by rw [z]; exact hl)
    rcases rh.lst b vs q with z | ⟨y, z⟩
    · exact .inl (by rw [upd_ne ne]; exact z)
    · exact .inr ⟨y, by rw [upd_ne ne]; exact z⟩
  · rw [upd_ne (fun z => n l (by rw [z]; exact hl))]; exact q
  · by_cases e : b = a
    · subst e
      exact ⟨ho, upd_same⟩
    · exact ⟨x, by rw [upd_ne e]; exact q⟩
/-- the list of a number -/
theorem RelH.lstAt {G : Gx} {M : Mp} {S : Store} {H : Hp} {l : Nat} {a : Addr} {xs : List D} (rh : RelH G M S H) (hl : M.loc l = some a) (hs : S[l]? = some (.lst xs)) : ∃ vs, H a = some (.lst vs) ∧ RelDs G M xs vs := by
  obtain ⟨b, e1, vs, e2, e3⟩ := rh.obj l _ hs
  rw [hl] at e1; cases e1
  exact ⟨vs, e2, e3⟩
section
variable {X : Cx} {M0 : Mp} {H0 : Hp} {W : WX} {a b c o k e : Expr} {es : List Expr} {da db dc dk : DE} {ds : DA} {dl : DL} {dt : DT} {d1 d2 : DS} {pos : Pos} {st : Stmt}
/-! ### methods of lists -/
theorem se_appR (h : PE X e (tBM X.K "list" rAppend (tE (gx X) W da) (tCons (tE (gx X) W db) tNil))) : SE X W e (eAppR da db) := by
  refine h.dimp ?_
  rintro s H Q ⟨M, r, S, en, rh, p⟩
  refine ⟨M, r, S, en, rh, (Post.bind (R := RD (gx X)) p).imp fun v H1 h => ?_⟩
  obtain ⟨M1, x, S1, e1, rh1, rd1, p1⟩ := h
  cases x with
  | ref l =>
    obtain ⟨pa, rfl, h1⟩ := rd1
    dsimp only at p1
    split at p1
    · rename_i xs0 q0
      obtain ⟨vs0, z1, z2⟩ := rh1.lstAt h1 q0
      refine ⟨.inl ⟨rfl, vs0, .inl (.inl z1)⟩, M1, r, S1, en.mono e1, rh1, (Post.bind (R := RD (gx X)) p1).imp fun w H2 h => ?_⟩
      obtain ⟨M2, y, S2, e2, rh2, rd2, p2⟩ := h
      have h2 := e2.loc l pa h1
      split at p2
      · rename_i xs q
        obtain ⟨vs, z3, z4⟩ := rh2.lstAt h2 q
        split at p2
        · rename_i hz
          obtain ⟨x1, x2⟩ := rh2.put (o' := .lst (xs ++ [y])) (ho := .lst (vs ++ [w])) h2 q ⟨_, rfl, z4.append (RelDs.nil.cons rd2)⟩
          exact ⟨pa, vs, w, rfl, rfl, z3, by rw [← z4.len]; exact hz, p2 M2 _ _ x2 x1 rfl⟩
        · exact p2.elim
      · exact p2.elim
    · exact p1.elim
  | _ => exact p1.elim
theorem eraseIdx_rel {G : Gx} {M : Mp} : ∀ {ds : List D} {vs : List V} (i : Nat), RelDs G M ds vs → RelDs G M (ds.eraseIdx i) (vs.eraseIdx i)
  | [], _, _, h => by cases (show _ = [] from h); exact RelDs.nil
  | d :: ds, _, 0, h => by
    obtain ⟨v, r, rfl, h1, h2⟩ := h
    exact h2
  | d :: ds, _, i + 1, h => by
    obtain ⟨v, r, rfl, h1, h2⟩ := h
    exact ⟨v, _, rfl, h1, eraseIdx_rel i h2⟩
theorem place_seq {n : Nat} {i : Int} {j : Nat} (h : place n i = some j) (hn : n ≤ sizeLine) : -(2 ^ 63) ≤ i ∧ i < 2 ^ 63 ∧ seqIndex? i n = some j ∧ j < n := by
  rw [place_eq] at h
  obtain ⟨h1, h2, h3, h4⟩ := ixN_seq h
  have := line63
  exact ⟨by omega, by omega, h1, h2⟩
def rPopAtB : V → List V → Hp → VK → Prop := fun x vs H Q => ∃ l xs i k y, x = .ref l ∧ vs = [.int i] ∧ H l = some (.lst xs) ∧ place xs.length i = some k ∧ xs[k]? = some y ∧ Q y (upd H l (.lst (xs.eraseIdx k)))
theorem mt_popAtB : MtR X "list.pop" rPopAtB := by
  intro pins s z H x vs v us Q I rx rv h
  obtain ⟨l, xs, i, k, y, rfl, rfl, hH, hk, hy, q⟩ := h
  obtain ⟨hz, _⟩ := I.lstM hH
  obtain ⟨h1, h2, h3, _⟩ := place_seq hk hz
  exact mt_popAt pins s z H _ _ v us Q I rx rv ⟨l, xs, i, k, y, rfl, rfl, hH, h1, h2, h3, hy, q⟩
theorem se_popR (h : PE X e (tBM X.K "list" rPopAtB (tE (gx X) W da) (tCons (tE (gx X) W db) tNil))) : SE X W e (ePopR da db) := by
  refine h.dimp ?_
  rintro s H Q ⟨M, r, S, en, rh, p⟩
  refine ⟨M, r, S, en, rh, (Post.bind (R := RD (gx X)) p).imp fun v H1 h => ?_⟩
  obtain ⟨M1, x, S1, e1, rh1, rd1, p1⟩ := h
  cases x with
  | ref l =>
    obtain ⟨pa, rfl, h1⟩ := rd1
    dsimp only at p1
    split at p1
    · rename_i xs0 q0
      obtain ⟨vs0, z1, z2⟩ := rh1.lstAt h1 q0
      refine ⟨.inl ⟨rfl, vs0, .inl (.inl z1)⟩, M1, r, S1, en.mono e1, rh1, (Post.bind (R := RD (gx X)) p1).imp fun w H2 h => ?_⟩
      obtain ⟨M2, y, S2, e2, rh2, rd2, p2⟩ := h
      have h2 := e2.loc l pa h1
      split at p2
      · rename_i j xs q
        cases (show _ = _ from rd2)
        obtain ⟨vs, z3, z4⟩ := rh2.lstAt h2 q
        split at p2
        · rename_i m hm
          split at p2
          · rename_i y hy
            obtain ⟨v, y1, y2⟩ := z4.get hy
            obtain ⟨x1, x2⟩ := rh2.put (o' := .lst (xs.eraseIdx m)) (ho := .lst (vs.eraseIdx m)) h2 q ⟨_, rfl, eraseIdx_rel m z4⟩
            exact ⟨pa, vs, j, m, v, rfl, rfl, z3, by rw [← z4.len]; exact hm, y1, p2 M2 _ _ x2 x1 y2⟩
          · exact p2.elim
        · exact p2.elim
      · exact p2.elim
    · exact p1.elim
  | _ => exact p1.elim
theorem dropLast_rel {G : Gx} {M : Mp} {ds : List D} {vs : List V} (h : RelDs G M ds vs) : RelDs G M ds.dropLast vs.dropLast := by
  rw [List.dropLast_eq_take, List.dropLast_eq_take, h.len]
  exact h.take _
theorem se_popR0 (h : PE X e (tBM0 X.K "list" rPop (tE (gx X) W da))) : SE X W e (ePopR0 da) := by
  refine h.dimp ?_
  rintro s H Q ⟨M, r, S, en, rh, p⟩
  refine ⟨M, r, S, en, rh, (Post.bind (R := RD (gx X)) p).imp fun v H1 h => ?_⟩
  obtain ⟨M1, x, S1, e1, rh1, rd1, p1⟩ := h
  cases x with
  | ref l =>
    obtain ⟨pa, rfl, h1⟩ := rd1
    dsimp only at p1
    split at p1
    · rename_i xs q
      obtain ⟨vs, z3, z4⟩ := rh1.lstAt h1 q
      split at p1
      · rename_i y hy
        obtain ⟨v, y1, y2⟩ := z4.get hy
        obtain ⟨x1, x2⟩ := rh1.put (o' := .lst xs.dropLast) (ho := .lst vs.dropLast) h1 q ⟨_, rfl, dropLast_rel z4⟩
        exact ⟨.inl ⟨rfl, vs, .inl (.inl z3)⟩, pa, vs, v, rfl, rfl, z3, by rw [← z4.len]; exact y1, p1 M1 _ _ x2 x1 y2⟩
      · exact p1.elim
    · exact p1.elim
  | _ => exact p1.elim
/-! ### new lists from others -/
theorem sn_lstOf (hc : PE X e (tCB (fun xs H Q => ∃ p ys, xs = [.ref p] ∧ (SqL X.K H p ys ∨ SqT X.K H p ys) ∧ ∀ l, H l = none → Q (.ref l) (upd H l (.lst ys))) (tCons (tL (gx X) W dl) tNil))) : SN X W e (nLstOf dl) := by
  refine hc.dimp ?_
  rintro s H Q ⟨M, r, S, en, rh, p⟩
  refine ⟨M, r, S, en, rh, (Post.bind (R := RSrc (gx X) s) p).imp fun v H1 h => ?_⟩
  obtain ⟨M1, c, S1, e1, rh1, rd1, p1⟩ := h
  cases q : c.get r S1 with
  | none => rw [q] at p1; exact p1.elim
  | some xs =>
    rw [q] at p1
    obtain ⟨pa, vs, rfl, h1, h2⟩ := src_ok rh1 (en.mono e1) rd1 q
    refine ⟨pa, vs, rfl, sq_or h1, fun l hl => ?_⟩
    refine p1 M1 _ _ (Ext.other hl) (rh1.other hl) ⟨l, vs, rfl, upd_same, h2, rh1.noloc hl, rh1.nolst hl, ?_⟩
    cases z : H l with
    | none => rfl
    | some o =>
      obtain ⟨o', z'⟩ := e1.there l o z
      rw [hl] at z'; cases z'
theorem sn_sorted (hc : PE X e (tCB (rSortD (gx X)) (tCons (tL (gx X) W dl) tNil))) : SN X W e (nSorted dl) := by
  refine hc.dimp ?_
  rintro s H Q ⟨M, r, S, en, rh, p⟩
  refine ⟨M, r, S, en, rh, (Post.bind (R := RSrc (gx X) s) p).imp fun v H1 h => ?_⟩
  obtain ⟨M1, c, S1, e1, rh1, rd1, p1⟩ := h
  cases q : c.get r S1 with
  | none => rw [q] at p1; exact p1.elim
  | some xs =>
    rw [q] at p1
    obtain ⟨pa, vs, rfl, h1, h2⟩ := src_ok rh1 (en.mono e1) rd1 q
    simp only [Rs.ofO_some, Rs.bind_ok] at p1
    split at p1
    · rename_i hc
      simp only [Bool.and_eq_true, Bool.not_eq_true'] at hc
      rw [hc.1] at h1
      refine ⟨M1, S1, pa, vs, xs, rfl, rh1, h1, h2, hc.2, fun l ws hl hw => ?_⟩
      refine p1 M1 _ _ (Ext.other hl) (rh1.other hl) ⟨l, ws, rfl, upd_same, hw, rh1.noloc hl, rh1.nolst hl, ?_⟩
      cases z : H l with
      | none => rfl
      | some o =>
        obtain ⟨o', z'⟩ := e1.there l o z
        rw [hl] at z'; cases z'
    · exact p1.elim
/-! ### stores -/
theorem ss_putR (h : PS X st (tAsg (tE (gx X) W da) (gSub (tE (gx X) W db) (tE (gx X) W dk) rSetL))) : SS X M0 H0 W st (sPutR db dk da) := by
  refine h.dimp ?_
  rintro D s H ⟨M, r, S, w, p⟩
  refine ⟨M, r, S, w.env, w.heap, (PostS.toS (R := RD (gx X)) w p).imp fun y H1 h => ?_⟩
  obtain ⟨M1, v, S1, w1, e1, rv, p1⟩ := h
  refine ⟨M1, r, S1, w1.env, w1.heap, (PostS.toS (R := RD (gx X)) w1 p1).imp fun z H2 h => ?_⟩
  obtain ⟨M2, u, S2, w2, e2, ru, p2⟩ := h
  refine ⟨M2, r, S2, w2.env, w2.heap, (PostS.toS (R := RD (gx X)) w2 p2).imp fun z2 H3 h => ?_⟩
  obtain ⟨M3, n, S3, w3, e3, rn, p3⟩ := h
  split at p3
  · rename_i l j
    obtain ⟨pa, rfl, h1⟩ := ru
    cases (show _ = _ from rn)
    have h3 := e3.loc l pa h1
    split at p3
    · rename_i xs q
      obtain ⟨vs, z3, z4⟩ := w3.heap.lstAt h3 q
      split at p3
      · rename_i m hm
        obtain ⟨x1, x2⟩ := w3.heap.put (o' := .lst (xs.set m v)) (ho := .lst (vs.set m y)) h3 q ⟨_, rfl, z4.set m ((rv.mono e2).mono e3)⟩
        exact ⟨pa, vs, j, m, rfl, rfl, z3, by rw [← z4.len]; exact hm, p3 M3 s _ (w3.mono x2 x1) Le.refl⟩
      · exact p3.elim
    · exact p3.elim
  · exact p3.elim
theorem ss_fld {f : Str} {cs : List Str} (hf : ∀ c ∈ cs, FldOk (gx X) c f) (h : PS X st (sFld X.K (tE (gx X) W db) (tE (gx X) W da) f)) : SS X M0 H0 W st (sFldD cs f db da) := by
  refine h.dimp ?_
  rintro D s H ⟨M, r, S, w, p⟩
  refine ⟨M, r, S, w.env, w.heap, (PostS.toS (R := RD (gx X)) w p).imp fun y H1 h => ?_⟩
  obtain ⟨M1, v, S1, w1, e1, rv, p1⟩ := h
  refine ⟨M1, r, S1, w1.env, w1.heap, (PostS.toS (R := RD (gx X)) w1 p1).imp fun z H2 h => ?_⟩
  obtain ⟨M2, u, S2, w2, e2, ru, p2⟩ := h
  cases u with
  | ref l =>
    obtain ⟨pa, rfl, h1⟩ := ru
    dsimp only at p2
    split at p2
    · rename_i c fs q
      split at p2
      · rename_i hc
        obtain ⟨a2, x1, C, dx, vfs, x2, x3, x4⟩ := w2.heap.obj l _ q
        rw [h1] at x1; cases x1
        obtain ⟨k1, k2⟩ := hf c hc.1 C x3
        obtain ⟨y1, y2⟩ := w2.heap.put (o' := .ins c (putFD f v fs)) (ho := .ins C dx (putF f y vfs)) h1 q ⟨C, dx, _, rfl, x3, x4.put (rv.mono e2)⟩
        exact ⟨pa, C, dx, vfs, rfl, x2, k1, k2, by rw [← x4.len]; exact hc.2, p2 M2 s _ (w2.mono y2 y1) Le.refl⟩
      · exact p2.elim
    · exact p2.elim
  | _ => exact p2.elim
/-- name += e, name -= e: of whole numbers -/
theorem ss_aug {i : Nat} {f : Int → Int → Int} (h : PS X st (tAug i (tE (gx X) W da) (ipI f))) : SS X M0 H0 W st (sAugI i f da) := by
  refine h.dimp ?_
  rintro D s H ⟨M, r, S, w, p⟩
  unfold sAugI at p
  cases q : r[i]? with
  | none => rw [q] at p; exact p.elim
  | some z =>
    rw [q] at p
    have hi : i < r.length := (List.getElem?_eq_some_iff.mp q).1
    cases z with
    | val d =>
      cases d with
      | int x =>
        obtain ⟨v, k1, u, k2, k3⟩ := w.env.sl i _ q
        subst k2
        cases (show _ = _ from k3)
        refine ⟨_, k1, M, r, S, w.env, w.heap, (PostS.toS (R := RD (gx X)) w p).imp fun y H1 h => ?_⟩
        obtain ⟨M1, v, S1, w1, e1, rv, p1⟩ := h
        cases v with
        | int j =>
          cases (show _ = _ from rv)
          exact ⟨x, j, rfl, rfl, p1 M1 _ H1 (w1.upd (Upd.set w1.env.len hi (d := .int (f x j)) rfl)) Le.refl⟩
        | _ => exact p1.elim
      | _ => exact p.elim
    | un => exact p.elim
    | own _ => exact p.elim
    | ownd _ _ => exact p.elim
    | exc _ _ => exact p.elim
    | lam => exact p.elim
end
end Dn

end
section
set_option Elab.async false
set_option linter.all false
set_option maxRecDepth 100000
set_option maxHeartbeats 4000000
/-! The rules: new instances, defs, the law's entry. -/
namespace Dn
open PySem PySem.Spec PyProof.Rows L2
variable [Tb]
/-- a new object that no one knew gets the next number -/
theorem loc_any {G : Gx} {M : Mp} {S : Store} {H : Hp} {p : Addr} {o : SO} {ho : HO} (rh : RelH G M S H) (hp : H p = none) (h : ObjR G M o (some ho)) :
    ∃ M', Ext M H M' (upd H p ho) ∧ RelH G M' (S ++ [o]) (upd H p ho) ∧ RelD G M' (.ref S.length) (.ref p) := by
  have nl := rh.nolst hp
  have no := rh.noloc hp
  have ne : ∀ b o, H b = some o → b ≠ p := fun b o h q => by rw [q, hp] at h; cases h
  have nS : ∀ l x, M.loc l = some x → l ≠ S.length := fun l x h q => by have := rh.dom l x h; omega
  have ex : Ext M H ⟨fun l => if l = S.length then some p else M.loc l, M.tup, M.lst⟩ (upd H p ho) := by
    refine ⟨fun l x h => ?_, fun _ _ h => h, fun _ _ h => h, fun l x h => ?_, fun _ _ h => .inl h, fun a o h _ _ => ?_, fun a o h => ⟨o, ?_⟩⟩
    · show (if l = S.length then some p else M.loc l) = some x
      rw [if_neg (nS l x h)]; exact h
    · have h' : (if l = S.length then some p else M.loc l) = some x := h
      by_cases q : l = S.length
      · rw [if_pos q] at h'; cases h'
        exact .inr hp
      · rw [if_neg q] at h'; exact .inl h'
    · rw [upd_ne (ne a o h)]; exact h
    · rw [upd_ne (ne a o h)]; exact h
  refine ⟨_, ex, ?_, p, rfl, by show (if S.length = S.length then some p else M.loc S.length) = some p; rw [if_pos rfl]⟩
  refine ⟨fun l x q => ?_, fun l x h => ?_, fun l k x h1 h2 => ?_, fun a x h => ?_, fun a x h => ?_, fun a x l h q => ?_, tabs_fresh rh.tabs hp⟩
  · by_cases hl : l = S.length
    · subst hl
      rw [List.getElem?_append_right (Nat.le_refl _)] at q
      simp at q
      subst q
      exact ⟨p, by show (if S.length = S.length then some p else M.loc S.length) = some p; rw [if_pos rfl], by rw [upd_same]; exact h.mono ex⟩
    · have hlt : l < S.length := by
        have := (List.getElem?_eq_some_iff.mp q).1
        simp at this; omega
      rw [List.getElem?_append_left hlt] at q
      obtain ⟨a, e1, e2⟩ := rh.obj l x q
      have hne : a ≠ p := fun z => no l (by rw [← z]; exact e1)
      refine ⟨a, by show (if l = S.length then some p else M.loc l) = some a; rw [if_neg hl]; exact e1, ?_⟩
      rw [upd_ne hne]
      exact e2.mono ex
  · have h' : (if l = S.length then some p else M.loc l) = some x := h
    by_cases q : l = S.length
    · rw [q]; simp
    · rw [if_neg q] at h'
      have := rh.dom l x h'
      simp; omega
  · have h1' : (if l = S.length then some p else M.loc l) = some x := h1
    have h2' : (if k = S.length then some p else M.loc k) = some x := h2
    by_cases q1 : l = S.length <;> by_cases q2 : k = S.length
    · rw [q1, q2]
    · rw [if_pos q1] at h1'; rw [if_neg q2] at h2'; cases h1'; exact absurd h2' (no k)
    · rw [if_neg q1] at h1'; rw [if_pos q2] at h2'; cases h2'; exact absurd h1' (no l)
    · rw [if_neg q1] at h1'; rw [if_neg q2] at h2'; exact rh.inj l k x h1' h2'
  · have := rh.tup a x h
    rw [upd_ne (ne a _ this)]; exact this
  · have q : a ≠ p := fun q => by rw [q, nl] at h; cases h
    rcases rh.lst a x h with z | ⟨o, z⟩
    · exact .inl (by rw [upd_ne q]; exact z)
    · exact .inr ⟨o, by rw [upd_ne q]; exact z⟩
  · have h' : (if l = S.length then some p else M.loc l) = some a := q
    by_cases z : l = S.length
    · rw [if_pos z] at h'; cases h'
      rw [nl] at h; cases h
    · rw [if_neg z] at h'
      exact rh.apt a x l h h'
section
variable {X : Cx} {W : WX} {e : Expr} {ds : DA}
theorem make_go {c : Str} {C : Addr} {g : Fn} {M1 : Mp} {S1 : Store} {H1 : Hp} {xs : List D} {vs : List V} {s : L2.St} {Q : VK} (hC : X.mg c = some (.ref C)) (rh1 : RelH (gx X) M1 S1 H1) (rd1 : RelDs (gx X) M1 xs vs)
    (p1 : Post (gx X) (RD (gx X)) WN M1 H1 s ((g (.ref S1.length :: xs) (S1 ++ [.ins c []])).bind fun v S2 => match v with
      | .non => .ok (.ref S1.length) S2
      | _ => .bad) Q) (x dx : Addr) (hx : H1 x = none) (hd : H1 dx = none) (ne : dx ≠ x) :
    spD (gx X) g (.ref x :: (vs ++ [])) (upd (upd H1 dx (.own x)) x (.ins C dx [])) (fun v H2 => v = .non ∧ Q (.ref x) H2) EN := by
  rw [List.append_nil]
  have hx' : upd H1 dx (.own x) x = none := by rw [upd_ne (Ne.symm ne)]; exact hx
  obtain ⟨M2, e2, rh2, rd2⟩ := loc_any (o := .ins c []) (ho := .ins C dx []) (rh1.other (o := .own x) hd) hx' ⟨C, dx, [], rfl, hC, rfl⟩
  have e12 : Ext M1 H1 M2 _ := (Ext.other hd).trans e2
  refine ⟨M2, .ref S1.length :: xs, S1 ++ [.ins c []], RelDs.cons rd2 (rd1.mono e12), rh2, ?_⟩
  cases q : g (.ref S1.length :: xs) (S1 ++ [.ins c []]) with
  | ok v S2 =>
    rw [q] at p1
    intro M' y H' e' rh' rd'
    cases v with
    | non =>
      cases (show _ = _ from rd')
      exact ⟨rfl, p1 M' _ H' (e12.trans e') rh' (RelD.mono (G := gx X) (d := .ref S1.length) e' rd2)⟩
    | _ => exact p1.elim
  | exc c fs S2 =>
    rw [q] at p1
    exact fun M' H' C dx e' rh' q1 q2 => p1 M' H' C dx (e12.trans e') rh' q1 q2
  | bad => rw [q] at p1; exact p1.elim
theorem se_make {c : Str} {C : Addr} {g : Fn} (hC : X.mg c = some (.ref C)) (hc : PE X e (tMake C (spN (gx X) g) [] EN (tA (gx X) WN ds))) : SE X WN e (eMake c g ds) := by
  refine hc.dimp ?_
  rintro s H Q ⟨M, r, S, en, rh, p⟩
  refine ⟨M, r, S, en, rh, (Post.bind (R := RA (gx X)) p).imp fun vs H1 h => ?_⟩
  obtain ⟨M1, xs, S1, e1, rh1, rd1, p1⟩ := h
  exact fun x dx hx hd ne => make_go hC rh1 rd1 p1 x dx hx hd ne
theorem se_make0 {c : Str} {C : Addr} {g : Fn} (hC : X.mg c = some (.ref C)) (hc : PE X e (tMake C (spN (gx X) g) [] EN tNil)) : SE X WN e (eMake c g aNil) := by
  refine hc.dimp ?_
  rintro s H Q ⟨M, r, S, en, rh, p⟩
  exact fun x dx hx hd ne => make_go (M1 := M) (S1 := S) (xs := []) (vs := []) hC rh rfl p x dx hx hd ne
end
/-! ### a def keeps its promise -/
section
variable {P : Program} {w : World} {K : PySem.W.Frag} {mg : Str → Option Value} {base : Heap}
theorem fn_ok {x qual : Str} {params : Arguments} {body : List Stmt} {scope : Scope} {f : Addr} {fd : FuncData} {N ps : List Str} {k np n : Nat} {d : DS} (F : FunD K x qual params body scope [] [] f fd) (S : FnScope N ps scope) (hp : ps.length = np) (hn : N.length = n)
    (hb : ∀ (cdv : Value) (A : Around) (outer : List Env) (s : Shared) (H : Hp) (E : XK) (M0 : Mp), Room k (A.deeper (envOfC qual scope s.heap.objs.size f cdv)) → SSs (cxOf CX0 P w K mg base N qual scope f cdv A outer s H E).nox M0 H WN body d) :
    FnOk P w K mg base CX0 (k + 1) f fd ps (spN (gk K mg) (fnD np n d)) := by
  have len : ∀ {vs : List V} {M : Mp} {ds : List D} {St : Store} {H : Hp} {Q : VK}, RelDs (gk K mg) M ds vs → Post (gk K mg) (RD (gk K mg)) (fun cls dx _ H => EN cls dx H) M H [] (fnD np n d ds St) Q → ds.length = np := fun {vs M ds St H Q} _ p => by
    unfold fnD at p
    split at p
    · assumption
    · exact p.elim
  refine F.ok S (fun vs H Q E h => ?_) fun cdv A outer s H vs Q E hr h => ?_
  · obtain ⟨M, ds, St, rd, rh, p⟩ := h
    rw [hp, ← len rd p, rd.len]
  · obtain ⟨M, ds, St, rd, rh, p⟩ := h
    have hl := len rd p
    refine ⟨_, PSs.nox (hb cdv A outer s H E M hr), M, ds.map Sl.val ++ List.replicate (n - np) Sl.un, St, ⟨⟨?_, fun i z q => ?_, fun i j xs ys a q1 => ?_⟩, rh, Ext.refl, fun i xs a q1 => ?_⟩, ?_⟩
    · have pre : ps.length ≤ N.length := by
        have := congrArg List.length S.pre
        rw [List.length_take] at this
        omega
      unfold L2.start
      simp only [List.length_append, List.length_map, List.length_replicate]
      rw [← rd.len]
      omega
    · unfold L2.start
      by_cases hi : i < ds.length
      · rw [List.getElem?_append_left (by simpa using hi), List.getElem?_map] at q
        obtain ⟨dx, hdx⟩ : ∃ dx, ds[i]? = some dx := ⟨ds[i], by simp [hi]⟩
        rw [hdx] at q
        cases q
        obtain ⟨v, hv, rv⟩ := rd.get hdx
        refine ⟨some v, ?_, v, rfl, rv⟩
        rw [List.getElem?_append_left (by simpa using (rd.len ▸ hi)), List.getElem?_map, hv]
        rfl
      · rw [List.getElem?_append_right (by simpa using hi)] at q
        rw [List.getElem?_replicate] at q
        split at q
        · rename_i hj
          cases q
          refine ⟨none, ?_, trivial⟩
          rw [List.getElem?_append_right (by simpa using (rd.len ▸ Nat.le_of_not_lt hi)), List.getElem?_replicate, if_pos (by
            simp only [List.length_map] at hj ⊢
            rw [← rd.len]
            omega)]
        · cases q
    · exfalso
      have := List.mem_of_getElem? q1
      simp at this
    · exfalso
      have := List.mem_of_getElem? q1
      simp at this
    · unfold fnD at p
      rw [if_pos hl] at p
      cases q : d (ds.map Sl.val ++ List.replicate (n - np) Sl.un) St with
      | next r S1 => rw [q] at p; exact fun M1 s1 H1 w1 l1 => p M1 .non H1 w1.ext w1.heap rfl
      | ret v r S1 => rw [q] at p; exact fun M1 y s1 H1 w1 l1 rv => p M1 y H1 w1.ext w1.heap rv
      | brk r S1 => rw [q] at p; exact p.elim
      | cont r S1 => rw [q] at p; exact p.elim
      | exc c fs r S1 => rw [q] at p; exact fun M1 s1 H1 C dx w1 l1 g x => p M1 H1 C dx w1.ext w1.heap g x
      | bad => rw [q] at p; exact p.elim
/-- the law's entry: nothing is there but the script -/
theorem law_sp {m : Fn} (h : ∀ ns : List Int, ns.length ≤ 63 → ∃ S, m [.lst (ns.map D.int)] [] = .ok (.bl true) S) (H : Hp) (a : Addr) (ns : List Int) (hl : ns.length ≤ 63) (hT : LamX.Tabs Tb.T H) (hS : SqL K H a (ns.map V.int)) :
    spN (gk K mg) m [.ref a] H (fun v _ => v = .bl true) fun _ _ _ => False := by
  obtain ⟨S, hm⟩ := h ns hl
  have intsR : ∀ (M : Mp) (zs : List Int), RelDs (gk K mg) M (zs.map D.int) (zs.map V.int) := fun M zs => by
    induction zs with
    | nil => exact rfl
    | cons z zs ih => exact ⟨_, _, rfl, rfl, ih⟩
  have fin : ∀ M : Mp, RelH (gk K mg) M [] H → (M.lst a = some (ns.map V.int) ∨ SqL K noHp a (ns.map V.int)) → spN (gk K mg) m [.ref a] H (fun v _ => v = .bl true) fun _ _ _ => False := fun M rh ha => by
    refine ⟨M, [.lst (ns.map D.int)], [], RelDs.cons ⟨a, _, rfl, ha, intsR M ns⟩ rfl, rh, ?_⟩
    rw [hm]
    exact fun M' y H' _ _ rd => rd
  rcases hS with hS | hS
  · refine fin ⟨fun _ => none, fun _ => none, fun b => if b = a then some (ns.map V.int) else none⟩ ⟨fun l o q => (by simp at q), fun l b q => (by cases q), fun l k b q => (by cases q), fun b vs q => (by cases q), fun b vs q => ?_, fun b vs l q z => (by cases z), hT⟩ (.inl (by show (if a = a then _ else _) = _; rw [if_pos rfl]))
    have q : (if b = a then some (ns.map V.int) else none) = some vs := q
    split at q
    · rename_i e
      cases q
      rw [e]
      exact hS
    · cases q
  · exact fin ⟨fun _ => none, fun _ => none, fun _ => none⟩ ⟨fun l o q => (by simp at q), fun l b q => (by cases q), fun l k b q => (by cases q), fun b vs q => (by cases q), fun b vs q => (by cases q), fun b vs l q z => (by cases z), hT⟩ (.inr (.inr hS))
end
end Dn

end
section
set_option Elab.async false
set_option linter.all false
set_option maxRecDepth 100000
set_option maxHeartbeats 4000000
/-! The rules: == of instances, count, index. -/
namespace Dn
open PySem PySem.Spec PyProof.Rows PySem.SeqAt L2
variable [Tb]
/-- a class without an __eq__ of its own -/
structure NoEq (K : PySem.W.Frag) (C : Addr) : Prop where
  mro : PySem.W.mroIn K C (.type "object") = some true
  eq : PySem.W.findIn K (.ref C) "__eq__" = some (some (.builtin "object.__eq__"))
section
variable {prog : Program} {w : World} {A : Around} {E : Value → Shared → Prop} {s : Shared} {K : PySem.W.Frag} {x y C : Addr} {ox oy : Obj} {od od' : Option Obj}
theorem objEq_same {Q : Value → Shared → Prop} (X : K.In s.heap) (I : PySem.W.InstAt s.heap x ox C od) (n : NoEq K C) (hq : Q (.bool true) s) : wpAny (model prog w) A (call (.builtin "object.__eq__") [.ref x, .ref x]) Q E s :=
  wpAny_call (codeAny_call_builtin F.cmp_object.eq.plain F.cmpEntry_eq (PySem.W.check_slot F.cmpKind_eq F.cmpSplit_eq (I.type.andThen (PySem.W.looks_mroIn X n.mro)) (F.cmpArgs_eq _ _) (objEq_entry_same hq)))
theorem objEq_other {Q : Value → Shared → Prop} (X : K.In s.heap) (I : PySem.W.InstAt s.heap x ox C od) (hy : s.heap.get? y = some oy) (ne : x ≠ y) (n : NoEq K C) (hq : Q .notImplemented s) : wpAny (model prog w) A (call (.builtin "object.__eq__") [.ref x, .ref y]) Q E s :=
  wpAny_call (codeAny_call_builtin F.cmp_object.eq.plain F.cmpEntry_eq (PySem.W.check_slot F.cmpKind_eq F.cmpSplit_eq (I.type.andThen (PySem.W.looks_mroIn X n.mro)) (F.cmpArgs_eq _ _) (objEq_entry_other ne I.at_ hy (by rw [I.cls]; intro z; cases z) hq)))
theorem try_same {Q : Option Value → Shared → Prop} (X : K.In s.heap) (I : PySem.W.InstAt s.heap x ox C od) (n : NoEq K C) (hq : Q (some (.bool true)) s) : wpAny (model prog w) A (tryCompare (.ref x) "__eq__" (.ref x)) Q E s := by
  unfold tryCompare
  exact wpAny_bind (HN.ifBound_objEq X I n.eq (objEq_same X I n (wpAny_pure hq)))
theorem try_other {Q : Option Value → Shared → Prop} (X : K.In s.heap) (I : PySem.W.InstAt s.heap x ox C od) (hy : s.heap.get? y = some oy) (ne : x ≠ y) (n : NoEq K C) (hq : Q none s) : wpAny (model prog w) A (tryCompare (.ref x) "__eq__" (.ref y)) Q E s := by
  unfold tryCompare
  exact wpAny_bind (HN.ifBound_objEq X I n.eq (objEq_other X I hy ne n (wpAny_pure hq)))
theorem cmp_inst {Q : Value → Shared → Prop} (hu : A.units < cLine) (X : K.In s.heap) (I : PySem.W.InstAt s.heap x ox C od) (J : PySem.W.InstAt s.heap y oy C od') (n : NoEq K C) (hq : Q (.bool (decide (x = y))) s) : wpAny (model prog w) A (compareOp .Eq (.ref x) (.ref y)) Q E s := by
  show wpAny (model prog w) A (richCompare .Eq (.ref x) (.ref y)) Q E s
  simp only [richCompare, cmpInfo_Eq, oneThing_ref]
  refine wpAny_holding (wpAny_bind (wpAny_cRoomFor hu ?_))
  refine wpAny_bind (I.type.here ?_)
  refine wpAny_bind (J.type.here ?_)
  rw [if_neg (by simp)]
  refine wpAny_bind (wpAny_pure ?_)
  by_cases e : x = y
  · subst e
    rw [decide_eq_true rfl] at hq
    simp only [Bool.false_eq_true, if_false]
    exact wpAny_bind (try_same X I n (wpAny_pure hq))
  · rw [decide_eq_false e] at hq
    simp only [Bool.false_eq_true, if_false, Bool.not_false, if_true]
    refine wpAny_bind (try_other X I J.at_ e n ?_)
    refine wpAny_bind (try_other X J I.at_ (Ne.symm e) n ?_)
    refine wpAny_bind (wpAny_rule (wpAny_bind (wpAny_isSame_ref_other e I.at_ J.at_ (by rw [I.cls]; intro z; cases z) (wpAny_pure hq))))
end
section
variable {X : Cx}
def rSame (K : PySem.W.Frag) : R2 := fun x y H Q => ∃ a b C dx fs dy gs, x = .ref a ∧ y = .ref b ∧ H a = some (.ins C dx fs) ∧ H b = some (.ins C dy gs) ∧ NoEq K C ∧ Q (.bl (decide (a = b))) H
theorem op_same (hu : X.A.units < cLine) : OpR X (compareOp .Eq) (rSame X.K) := by
  intro pins s z H x y v u Q I rx ry h
  obtain ⟨a, b, C, dx, fs, dy, gs, rfl, rfl, ha, hb, n, q⟩ := h
  cases rx
  cases ry
  obtain ⟨mA, O, _⟩ := ins_get I.hok ha
  obtain ⟨od, J, _⟩ := O.look
  obtain ⟨mB, O', _⟩ := ins_get I.hok hb
  obtain ⟨od', J', _⟩ := O'.look
  exact cmp_inst hu I.kIn J J' n ⟨.bl _, H, I, rfl, q⟩
theorem opb_same {G : Gx} {c : Str} (hn : ∀ C, G.mg c = some (.ref C) → NoEq G.K C) : OpB G (rSame G.K) (cmpSame c) := by
  intro M S H x y b v u Q rh rx ry h q
  unfold cmpSame at h
  split at h
  · rename_i l k
    split at h
    · rename_i a f1 a' f2 e1 e2
      split at h
      · rename_i hc
        obtain ⟨rfl, rfl⟩ := hc
        cases h
        obtain ⟨p, rfl, h1⟩ := rx
        obtain ⟨p', rfl, h2⟩ := ry
        obtain ⟨p1, y1, C, dx, vfs, x2, x3, x4⟩ := rh.obj l _ e1
        rw [h1] at y1; cases y1
        obtain ⟨p2, y1, C', dx', vfs', x2', x3', x4'⟩ := rh.obj k _ e2
        rw [h2] at y1; cases y1
        rw [x3] at x3'
        cases x3'
        refine ⟨p, p', C, dx, vfs, dx', vfs', rfl, rfl, x2, x2', hn C x3, ?_⟩
        have e : decide (p = p') = decide (l = k) := by
          by_cases e : l = k
          · subst e
            rw [h1] at h2; cases h2
            simp
          · rw [decide_eq_false e, decide_eq_false fun z => e (rh.inj l k p h1 (by rw [z]; exact h2))]
        rw [e]
        exact q
      · cases h
    · cases h
  · cases h
/-! ### count, index -/
def rCntD (K : PySem.W.Frag) : V → List V → Hp → VK → Prop := fun x xs H Q => ∃ (a : Addr) (y : V) (d : PyData) (ds : List PyData), x = V.ref a ∧ xs = [y] ∧ Dp K H (V.ref a) (.list ds) ∧ Dp K H y d ∧ SeqAt.shaped (.list ds) = true ∧ SeqAt.shaped d = true ∧ Q (.int (ds.countP fun z => PyData.eqv z d)) H
theorem mt_countD (hu : X.A.units + 65 < cLine) : MtR X "list.count" (rCntD X.K) := by
  intro pins s z H x xs v us Q I rx rxs h
  obtain ⟨a, y, d, ds, rfl, rfl, hl, hy, sl, sd, q⟩ := h
  cases rx
  obtain ⟨u, rfl, ru⟩ := rxs.one
  obtain ⟨bs, r1⟩ := Dp.reads I d y u hy ru
  have room : X.A.units + 1 + min (PyData.depthAll ds) d.depth < cLine := room_in_shaped sd hu
  cases hl with
  | lst hs ha =>
    obtain ⟨its, rv, pl, hlen⟩ := I.list hs
    obtain ⟨as, h4⟩ := Dp.readsAll I ds _ its ha rv
    have hx : PyData.plainAll ds = true := PyData.plainAll_of_canLay0 ds (SeqAt.canLay_of_shaped sl)
    have hd : d.plain = true := PyData.plain_of_canLay0 d (SeqAt.canLay_of_shaped sd)
    exact count_list_data (vs := its.toArray) pl.isList (show ReadsAll s.heap its.toArray.toList ds as from h4) r1 hx hd room ⟨.int _, H, I.tok _, ⟨_, rfl⟩, q⟩
theorem lst_shaped {xs : List D} (h : D.pls 63 xs = true) : SeqAt.shaped (.list (D.Ps xs)) = true := by
  have q := Ps_lay h
  have q1 : (PyData.list (D.Ps xs)).canLay0 = true := by simp only [PyData.canLay0]; exact q.1
  have q2 : (PyData.list (D.Ps xs)).depth ≤ 64 := by simp only [PyData.depth]; omega
  unfold SeqAt.shaped
  rw [q1, decide_eq_true q2]
  rfl
theorem one_shaped {x : D} (h : D.pl 63 x = true) : SeqAt.shaped x.P = true := by
  have q := P_lay h
  unfold SeqAt.shaped
  rw [q.1, decide_eq_true (by omega)]
  rfl
theorem count_P {x : D} (hx : D.pl 63 x = true) : ∀ {xs : List D}, D.pls 63 xs = true → (D.Ps xs).countP (fun z => PyData.eqv z x.P) = xs.countP fun z => eqD z x
  | [], _ => rfl
  | y :: xs, h => by
    have h' : D.pl 63 y = true ∧ D.pls 63 xs = true := by simpa [D.pls] using h
    simp only [D.Ps, List.countP_cons]
    rw [eqv_of y x h'.1 hx, count_P hx h'.2]
theorem Ps_get : ∀ {xs : List D} {j : Nat} {y : D}, xs[j]? = some y → (D.Ps xs)[j]? = some y.P
  | [], _, _, h => by simp at h
  | x :: xs, 0, y, h => by
    simp at h; subst h
    simp [D.Ps]
  | x :: xs, j + 1, y, h => by
    simp only [D.Ps, List.getElem?_cons_succ]
    exact Ps_get (by simpa using h)
theorem Ps_getI : ∀ {xs : List D} {j : Nat} {z : PyData}, (D.Ps xs)[j]? = some z → ∃ y, xs[j]? = some y ∧ z = y.P
  | [], _, _, h => by simp [D.Ps] at h
  | x :: xs, 0, z, h => by
    simp [D.Ps] at h; subst h
    exact ⟨x, rfl, rfl⟩
  | x :: xs, j + 1, z, h => by
    simp only [D.Ps, List.getElem?_cons_succ] at h
    obtain ⟨y, h1, h2⟩ := Ps_getI h
    exact ⟨y, by simpa using h1, h2⟩
theorem pls_at {k : Nat} : ∀ {xs : List D} {j : Nat} {y : D}, D.pls k xs = true → xs[j]? = some y → D.pl k y = true
  | [], _, _, _, h => by simp at h
  | x :: xs, 0, y, h, e => by
    have h' : D.pl k x = true ∧ D.pls k xs = true := by simpa [D.pls] using h
    simp at e; subst e
    exact h'.1
  | x :: xs, j + 1, y, h, e => by
    have h' : D.pl k x = true ∧ D.pls k xs = true := by simpa [D.pls] using h
    exact pls_at h'.2 (by simpa using e)
variable {W : WX} {e a : Expr} {da : DE} {dl : DL}
theorem sq_list {K : PySem.W.Frag} {H : Hp} {p : Addr} {vs : List V} (h : SqL K H p vs) : tyV K "list" (.ref p) H := .inl ⟨rfl, vs, h⟩
theorem cnt_go {G : Gx} {f : D → List D → Option D} {M : Mp} {S : Store} {H : Hp} {r : Rho} {s : L2.St} {c : Src} {v : V} {Q : VK} (rh : RelH G M S H) (en : EnvR G M H r s) (rd : RSrc G s M H c v)
    (p : Post G (RD G) W M H s ((Rs.ofO (if c.isT then none else c.get r S) S).bind fun _ S => (da r S).bind fun x S => (Rs.ofO (c.get r S) S).bind fun xs S => if D.pl 63 x && D.pls 63 xs then Rs.ofO (f x xs) S else .bad) Q)
    {Q2 : V → Hp → Prop}
    (k : ∀ (M2 : Mp) (S2 : Store) (H2 : Hp) (x : D) (y : V) (xs : List D) (vs : List V) (pa : Addr) (z : D), v = .ref pa → RelH G M2 S2 H2 → RelD G M2 x y → SqL G.K H2 pa vs → RelDs G M2 xs vs → D.pl 63 x = true → D.pls 63 xs = true → f x xs = some z →
      (∀ w, RelD G M2 z w → Q w H2) → Q2 y H2) : tyV G.K "list" v H ∧ tE G W da s H Q2 := by
  cases ht : c.isT with
  | true => rw [ht] at p; exact p.elim
  | false =>
    rw [ht] at p
    cases q : c.get r S with
    | none => rw [q] at p; exact p.elim
    | some xs0 =>
      rw [q] at p
      obtain ⟨pa, vs0, rfl, h1, h2⟩ := src_ok rh en rd q
      rw [ht] at h1
      refine ⟨sq_list h1, M, r, S, en, rh, (Post.bind (R := RD G) p).imp fun y H2 h => ?_⟩
      obtain ⟨M2, x, S2, e2, rh2, rd2, p2⟩ := h
      cases q2 : c.get r S2 with
      | none => rw [q2] at p2; exact p2.elim
      | some xs =>
        rw [q2] at p2
        obtain ⟨pb, vs, e3, h3, h4⟩ := src_ok rh2 (en.mono e2) (rd.mono e2) q2
        cases e3
        rw [ht] at h3
        simp only [Rs.ofO_some, Rs.bind_ok] at p2
        split at p2
        · rename_i hc
          simp only [Bool.and_eq_true] at hc
          cases q3 : f x xs with
          | none => rw [q3] at p2; exact p2.elim
          | some z =>
            rw [q3] at p2
            exact k M2 S2 H2 x y xs vs pa z rfl rh2 rd2 h3 h4 hc.1 hc.2 q3 fun w rw' => p2 M2 w H2 Ext.refl rh2 rw'
        · exact p2.elim
theorem se_count (h : PE X e (tBM X.K "list" (rCntD X.K) (tL (gx X) W dl) (tCons (tE (gx X) W da) tNil))) : SE X W e (eCount dl da) := by
  refine h.dimp ?_
  rintro s H Q ⟨M, r, S, en, rh, p⟩
  refine ⟨M, r, S, en, rh, (Post.bind (R := RSrc (gx X) s) p).imp fun v H1 h => ?_⟩
  obtain ⟨M1, c, S1, e1, rh1, rd1, p1⟩ := h
  refine cnt_go (f := fun x xs => some (.int (xs.countP fun z => eqD z x : Nat))) rh1 (en.mono e1) rd1 p1 fun M2 S2 H2 x y xs vs pa z ev rh2 rx hs rs hx hxs hz q => ?_
  subst ev
  cases hz
  refine ⟨pa, y, x.P, D.Ps xs, rfl, rfl, .lst hs (RelDs.dps rh2 hxs rs), RelD.dp rh2 hx rx, lst_shaped hxs, one_shaped hx, ?_⟩
  rw [count_P hx hxs]
  exact q _ rfl
theorem se_index (h : PE X e (tBM X.K "list" (rIndexD X.K) (tL (gx X) W dl) (tCons (tE (gx X) W da) tNil))) : SE X W e (eIndex dl da) := by
  refine h.dimp ?_
  rintro s H Q ⟨M, r, S, en, rh, p⟩
  refine ⟨M, r, S, en, rh, (Post.bind (R := RSrc (gx X) s) p).imp fun v H1 h => ?_⟩
  obtain ⟨M1, c, S1, e1, rh1, rd1, p1⟩ := h
  refine cnt_go (f := fun x xs => if xs.any (fun z => eqD z x) then some (.int (xs.findIdx fun z => eqD z x : Nat)) else none) (Q := Q) rh1 (en.mono e1) rd1 ?_ fun M2 S2 H2 x y xs vs pa z ev rh2 rx hs rs hx hxs hz q => ?_
  · have e : (fun (x : D) (S : Store) => (Rs.ofO (c.get r S) S).bind fun xs S => if D.pl 63 x && D.pls 63 xs && xs.any (fun z => eqD z x) then Rs.ok (D.int (xs.findIdx fun z => eqD z x : Nat)) S else Rs.bad) =
        fun (x : D) (S : Store) => (Rs.ofO (c.get r S) S).bind fun xs S => if D.pl 63 x && D.pls 63 xs then Rs.ofO (if xs.any (fun z => eqD z x) then some (D.int (xs.findIdx fun z => eqD z x : Nat)) else none) S else Rs.bad := by
      funext x S
      congr 1
      funext xs S
      by_cases h1 : (D.pl 63 x && D.pls 63 xs) = true
      · by_cases h2 : xs.any (fun z => eqD z x) = true
        · simp [h1, h2]
        · simp [h1, h2]
      · simp [h1]
    rw [← e]
    exact p1
  · subst ev
    split at hz
    · rename_i ha
      cases hz
      have hlt : (xs.findIdx fun z => eqD z x) < xs.length := List.findIdx_lt_length_of_exists (by simpa using List.any_eq_true.mp ha)
      have hg : xs[xs.findIdx fun z => eqD z x]? = some xs[xs.findIdx fun z => eqD z x] := List.getElem?_eq_getElem hlt
      have hp : eqD xs[xs.findIdx fun z => eqD z x] x = true := List.findIdx_getElem (p := fun z => eqD z x) (w := hlt)
      refine ⟨pa, y, x.P, D.Ps xs, xs.findIdx fun z => eqD z x, _, rfl, rfl, .lst hs (RelDs.dps rh2 hxs rs), RelD.dp rh2 hx rx, lst_shaped hxs, one_shaped hx, Ps_get hg, ?_, fun m z' hm hz' => ?_, q _ rfl⟩
      · rw [eqv_of _ x (pls_at hxs hg) hx]
        exact hp
      · obtain ⟨y', h1, rfl⟩ := Ps_getI hz'
        rw [eqv_of y' x (pls_at hxs h1) hx]
        have hlm : m < xs.length := (List.getElem?_eq_some_iff.mp h1).1
        have := List.not_of_lt_findIdx (p := fun z => eqD z x) hm
        rw [List.getElem?_eq_getElem hlm] at h1
        cases h1
        simpa using this
    · cases hz
end
end Dn

end
section
set_option Elab.async false
set_option linter.all false
set_option maxRecDepth 100000
set_option maxHeartbeats 4000000
/-! The head's facts, with more of the classes. -/
namespace Dn
open PySem PySem.Spec PyProof.Rows L2
/-- what such a class must have -/
def oexB (K : PySem.W.Frag) (C : Addr) : Bool := (match K.lookup C with
    | some ⟨.type "type", _, .cls cd, sl⟩ => (match cd.mro, sl.toList with
      | .ref C' :: bm, [_, _, _, _, some (.builtin n), _] => C' == C && (n == "ValueError.__new__" && (!cd.hasDel && (cd.hasDict && PySem.HandSPX.refsVE bm)))
      | _, _ => false)
    | _ => false) && (He.eqO (PySem.W.findIn K (.ref C) "__setattr__") (some (some (.builtin "object.__setattr__"))) && (decide (PySem.W.subIn K (.ref C) (.type "BaseException") = some true) && (decide (PySem.W.typeIn K (.ref C) = some (.type "type")) && PySem.W.keepIn K (.ref C))))
theorem oexB_ok {K : PySem.W.Frag} {C : Addr} (h : oexB K C = true) : OexC K C := by
  unfold oexB at h
  simp only [Bool.and_eq_true, decide_eq_true_eq] at h
  obtain ⟨q, h1, h2, h3, h4⟩ := h
  refine ⟨?_, He.eqO_ok h1, h2, h3, h4⟩
  split at q
  · rename_i dd cd sl ho
    split at q
    · rename_i C' bm k0 k1 k2 k3 n k5 hm hs
      simp only [Bool.and_eq_true, beq_iff_eq, Bool.not_eq_true'] at q
      obtain ⟨rfl, rfl, hdel, hdict, hre⟩ := q
      obtain ⟨nm, bs, mro, ns, qn, hd, sn, sub, ab, col, del⟩ := cd
      dsimp only at hm hdel hdict
      subst hm hdel hdict
      have hsl : sl = #[k0, k1, k2, k3, some (.builtin "ValueError.__new__"), k5] := by
        obtain ⟨l⟩ := sl
        simp only at hs
        rw [hs]
      subst hsl
      exact ⟨nm, qn, ns, bs, bm, sn, sub, ab, col, dd, k0, k1, k2, k3, k5, ho, hre⟩
    · cases q
  · cases q
/-- more facts: a class without an __eq__ -/
inductive Fx where
  | noeq (x : Str)
  | xc (x : Str)
  | isx (x y : Str) (b : Bool)
  | isb (x : Str) (t : String) (b : Bool)
  | xf (x f : Str)
  | ins (x : Str)
  | oex (x : Str) (fs : List Str)
  | own (x : Str)
  | oeq (x : Str)
/-- the built-in types of data -/
def tys : List String := ["NoneType", "bool", "int", "str", "tuple", "list", "dict"]
def Fx.ok (K : PySem.W.Frag) : Fx → Bool
  | .noeq x => decide (PySem.W.mroIn K (He.ga K x) (.type "object") = some true) && He.eqO (PySem.W.findIn K (.ref (He.ga K x)) "__eq__") (some (some (.builtin "object.__eq__")))
  | .xc x => He.eqO (PySem.W.findIn K (.ref (He.ga K x)) "__getattribute__") (some (some (.builtin "BaseException.__getattribute__"))) && (He.eqO (PySem.W.findIn K (.ref (He.ga K x)) "__getattr__") (some none) && (decide (PySem.W.subIn K (.ref (He.ga K x)) (.type "BaseException") = some true) &&
      (PySem.W.hasDictIn K (He.ga K x) && (He.eqO (PySem.W.findIn K (.ref (He.ga K x)) "__class__") (some (some (.builtin "object.__class__"))) && (He.eqO (PySem.W.specialIn K (.builtin "object.__class__") "__get__") (some (some (.builtin "getset_descriptor.__get__"))) &&
      (decide (PySem.W.takesIn K (.builtin "object.__class__") = some true) && decide (PySem.W.mroIn K (He.ga K x) (.type "object") = some true)))))))
  | .isx x y b => decide (PySem.W.kitOne K (.ref (He.ga K x)) (.ref (He.ga K y)) = some b)
  | .isb x t b => decide (PySem.W.kitOne K (.ref (He.ga K x)) (.type t) = some b)
  | .xf x f => L2.xfB K (He.ga K x) && He.eqO (PySem.W.findIn K (.ref (He.ga K x)) f) (some none)
  | .ins x => He.eqO (PySem.W.findIn K (.ref (He.ga K x)) "__class__") (some (some (.builtin "object.__class__"))) && (He.eqO (PySem.W.specialIn K (.builtin "object.__class__") "__get__") (some (some (.builtin "getset_descriptor.__get__"))) &&
      (decide (PySem.W.takesIn K (.builtin "object.__class__") = some true) && decide (PySem.W.mroIn K (He.ga K x) (.type "object") = some true)))
  | .oex x fs => oexB K (He.ga K x) && (He.eqO (PySem.W.findIn K (.ref (He.ga K x)) "__init__") (some (some (.ref (He.ma K (He.ga K x) "__init__")))) && (decide (PySem.W.typeIn K (.ref (He.ma K (He.ga K x) "__init__")) = some (.type "function")) && fs.all fun f => He.eqO (PySem.W.findIn K (.ref (He.ga K x)) f) (some none)))
  | .own x => tys.all fun t => decide (PySem.W.kitOne K (.type t) (.ref (He.ga K x)) = some false)
  | .oeq x => He.eqO (PySem.W.findIn K (.ref (He.ga K x)) "__eq__") (some (some (.ref (He.ma K (He.ga K x) "__eq__")))) && (PySem.W.isFn K (.ref (He.ma K (He.ga K x) "__eq__")) && (He.eqO (PySem.W.findIn K (.ref (He.ga K x)) "__ne__") (some (some (.builtin "object.__ne__"))) &&
      (decide (PySem.W.mroIn K (He.ga K x) (.type "object") = some true) && tys.all fun t => decide (PySem.W.subIn K (.type t) (.ref (He.ga K x)) = some false))))
abbrev AlX : Type := Bool × He.AlD
def obsX (n : Nat) (fx : List Fx) (fa : List He.Fa) (fn : List He.DefD) (g : Addr → Option Obj) : AlX := (fx.all fun f => f.ok (He.frG g (He.asD g n)), He.obsDG n fa fn g)
def SaysX (fx : List Fx) (fa : List He.Fa) (fn : List He.DefD) (K : PySem.W.Frag) : Prop := He.SaysD fa fn K ∧ (fx.all fun f => f.ok K) = true
def hookX (n : Nat) (fx : List Fx) (fa : List He.Fa) (fn : List He.DefD) : PySem.W.Hook where
  α := AlX
  obs := fun s => obsX n fx fa fn s.heap.get?
  val := fun _ => (true, He.valD fn)
  says := fun _ h => ∃ K : PySem.W.Frag, K.In h ∧ SaysX fx fa fn K
  of := fun _ _ e => ⟨_, He.frG_in, congrArg (fun z : AlX => z.2) e, congrArg (fun z : AlX => z.1) e⟩
  keeps := fun _ _ _ ⟨K, hK, c⟩ k => ⟨K, PySem.W.Frag.In.keeps hK k, c⟩
theorem obsX_eq {n : Nat} {fx : List Fx} {fa : List He.Fa} {fn : List He.DefD} {g : Addr → Option Obj} {s : Shared} (h : ∀ a, g a = s.heap.get? a) : obsX n fx fa fn g = (hookX n fx fa fn).obs s := by
  have e : g = s.heap.get? := funext h
  rw [e] <;> rfl
theorem noeq_ok {K : PySem.W.Frag} {x : Str} (c : (Fx.noeq x).ok K = true) : NoEq K (He.ga K x) := by
  unfold Fx.ok at c
  simp only [Bool.and_eq_true, decide_eq_true_eq] at c
  exact ⟨c.1, He.eqO_ok c.2⟩
theorem xc_ok {K : PySem.W.Frag} {x : Str} (c : (Fx.xc x).ok K = true) : L2.ExcC K (He.ga K x) := by
  unfold Fx.ok at c
  simp only [Bool.and_eq_true, decide_eq_true_eq] at c
  obtain ⟨c1, c2, c3, c4, c5, c6, c7, c8⟩ := c
  exact ⟨He.eqO_ok c1, He.eqO_ok c2, c3, c4, He.eqO_ok c5, He.eqO_ok c6, c7, c8⟩
theorem isx_ok {K : PySem.W.Frag} {x y : Str} {b : Bool} (c : (Fx.isx x y b).ok K = true) : PySem.W.kitOne K (.ref (He.ga K x)) (.ref (He.ga K y)) = some b := of_decide_eq_true c
theorem isb_ok {K : PySem.W.Frag} {x : Str} {t : String} {b : Bool} (c : (Fx.isb x t b).ok K = true) : PySem.W.kitOne K (.ref (He.ga K x)) (.type t) = some b := of_decide_eq_true c
theorem xf_ok {K : PySem.W.Frag} {x f : Str} (c : (Fx.xf x f).ok K = true) : L2.XfC K (He.ga K x) ∧ PySem.W.findIn K (.ref (He.ga K x)) f = some none := by
  unfold Fx.ok at c
  simp only [Bool.and_eq_true] at c
  exact ⟨L2.xfB_ok c.1, He.eqO_ok c.2⟩
/-- what isinstance asks of an own class -/
structure InsK (K : PySem.W.Frag) (C : Addr) : Prop where
  ha : PySem.W.findIn K (.ref C) "__class__" = some (some (.builtin "object.__class__"))
  hn : PySem.W.specialIn K (.builtin "object.__class__") "__get__" = some (some (.builtin "getset_descriptor.__get__"))
  htk : PySem.W.takesIn K (.builtin "object.__class__") = some true
  hm : PySem.W.mroIn K C (.type "object") = some true
theorem ins_ok {K : PySem.W.Frag} {x : Str} (c : (Fx.ins x).ok K = true) : InsK K (He.ga K x) := by
  unfold Fx.ok at c
  simp only [Bool.and_eq_true, decide_eq_true_eq] at c
  exact ⟨He.eqO_ok c.1, He.eqO_ok c.2.1, c.2.2.1, c.2.2.2⟩
/-- what a raise asks of an exception class with its own __init__ -/
structure OexF (K : PySem.W.Frag) (C fI : Addr) (fs : List Str) : Prop where
  T : OexC K C
  iC : PySem.W.findIn K (.ref C) "__init__" = some (some (.ref fI))
  tI : PySem.W.typeIn K (.ref fI) = some (.type "function")
  hf : ∀ f ∈ fs, PySem.W.findIn K (.ref C) f = some none
theorem oex_ok {K : PySem.W.Frag} {x : Str} {fs : List Str} (c : (Fx.oex x fs).ok K = true) : OexF K (He.ga K x) (He.ma K (He.ga K x) "__init__") fs := by
  unfold Fx.ok at c
  simp only [Bool.and_eq_true, decide_eq_true_eq] at c
  exact ⟨oexB_ok c.1, He.eqO_ok c.2.1, c.2.2.1, fun f hf => He.eqO_ok (List.all_eq_true.mp c.2.2.2 f hf)⟩
/-- what isinstance(_, an own class) asks of it -/
def OwnK (K : PySem.W.Frag) (C : Addr) : Prop := ∀ t ∈ tys, PySem.W.kitOne K (.type t) (.ref C) = some false
theorem own_ok {K : PySem.W.Frag} {x : Str} (c : (Fx.own x).ok K = true) : OwnK K (He.ga K x) := fun t ht => of_decide_eq_true (List.all_eq_true.mp c t ht)
/-- a class with an __eq__ of its own -/
structure OeqK (K : PySem.W.Frag) (C f : Addr) : Prop where
  eq : PySem.W.findIn K (.ref C) "__eq__" = some (some (.ref f))
  fn : PySem.W.isFn K (.ref f) = true
  ne : PySem.W.findIn K (.ref C) "__ne__" = some (some (.builtin "object.__ne__"))
  mr : PySem.W.mroIn K C (.type "object") = some true
  ty : ∀ t ∈ tys, PySem.W.subIn K (.type t) (.ref C) = some false
theorem oeq_ok {K : PySem.W.Frag} {x : Str} (c : (Fx.oeq x).ok K = true) : OeqK K (He.ga K x) (He.ma K (He.ga K x) "__eq__") := by
  unfold Fx.ok at c
  simp only [Bool.and_eq_true, decide_eq_true_eq] at c
  exact ⟨He.eqO_ok c.1, c.2.1, He.eqO_ok c.2.2.1, c.2.2.2.1, fun t ht => of_decide_eq_true (List.all_eq_true.mp c.2.2.2.2 t ht)⟩
theorem SaysX.fact {fx : List Fx} {fa : List He.Fa} {fn : List He.DefD} {K : PySem.W.Frag} (c : SaysX fx fa fn K) (i : Nat) {f : He.Fa} (h : fa[i]? = some f := by rfl) : f.ok K = true := c.1.fact i h
theorem SaysX.def_ {fx : List Fx} {fa : List He.Fa} {fn : List He.DefD} {K : PySem.W.Frag} (c : SaysX fx fa fn K) (i : Nat) {d : He.DefD} (h : fn[i]? = some d := by rfl) : ∃ fd, FunD K d.name d.qual d.params d.body d.scope (d.dvs K) (d.kws K) (He.fAd K d.at_) fd := c.1.def_ i h
theorem SaysX.more {fx : List Fx} {fa : List He.Fa} {fn : List He.DefD} {K : PySem.W.Frag} (c : SaysX fx fa fn K) (i : Nat) {f : Fx} (h : fx[i]? = some f := by rfl) : f.ok K = true := List.all_eq_true.mp c.2 f (List.mem_of_getElem? h)
/-! ### tests, short words -/
variable [Tb]
theorem tofb_t {G : Gx} {W : WX} {d : DE} {s : L2.St} {H : Hp} {Q : Bool → Hp → Prop} (h : tT G W (tOfB d) s H Q) : tE G W d s H fun x H1 => ∃ k, x = .bl k ∧ Q k H1 := by
  obtain ⟨M, r, S, en, rh, p⟩ := h
  refine ⟨M, r, S, en, rh, p.bind.imp fun v H1 h => ?_⟩
  obtain ⟨M1, x, S1, e1, rh1, rd1, p1⟩ := h
  cases x with
  | bl b =>
    cases (show _ = _ from rd1)
    exact ⟨b, rfl, p1 M1 _ H1 Ext.refl rh1 rfl⟩
  | _ => exact p1.elim
section
variable {X : Cx} {W : WX} {a b c e : Expr} {da db dc : DE} {dl : DL} {pos : Pos}
theorem st_in {op : CmpOp} {neg : Bool} (ho : OpR X (compareOp op) (rInA X.K neg)) (ha : SE X W a da) (hb : SL X W b dl) (hm : behindInMarks op b = false) : ST X W (.Compare a [op] [b] pos) (tOfB (eIn neg da dl)) :=
  (pt_cmpR ho ha hb hm).dimp fun _ _ _ h => in_t (tofb_t h)
theorem st_chain {op op' : CmpOp} {r r' : R2} {f g : Store → D → D → Option Bool} (hf : OpB (gx X) r f) (hg : OpB (gx X) r' g) (hm : PT X (.Compare a [op, op'] [b, c] pos) (tTest (tChain r r' (tE (gx X) W da) (tE (gx X) W db) (tE (gx X) W dc)))) :
    ST X W (.Compare a [op, op'] [b, c] pos) (tOfB (eChain f g da db dc)) := hm.dimp fun _ _ _ h => chain_t hf hg (tofb_t h)
theorem sv (i : Nat) {x : Str} (hN : X.N[i]? = some x := by rfl) (hv : Vis X.env.scope x := by first | exact Or.inl rfl | exact Or.inr (Or.inl rfl) | exact Or.inr (Or.inr rfl)) (hd : (x == ("__debug__" : Str)) = false := by decide) (hcd : (x == ("__classdict__" : Str)) = false := by decide) : SE X W (.Name x pos) (eVar i) := se_var hN hv hd hcd
end
section
variable {X : Cx} {M0 : Mp} {H0 : Hp} {W : WX} {e : Expr} {st : Stmt} {di : DI} {g : TG} {d : DG} {dt : DT} {de : DE} {is vs : List Nat} {i : Nat}
theorem pts_y {G : Gx} {W : WX} : PTs X [] (tT G W tYesD) := ⟨fun pins s z H Q I h => pts_nil.run pins s z H Q I (by
  obtain ⟨M, r, S, en, rh, p⟩ := h
  exact p M _ H Ext.refl rh rfl)⟩
theorem sn_lcT (hg : GOk (gx X) is g d) (hv : ∀ i ∈ is, i ∈ vs) (h : PE X e (tLc (tI (gx X) W di) g (tT (gx X) WN dt) (tE (gx X) WN de) vs)) : SN X W e (nLc di d dt de vs) := h.dimp fun _ _ _ => lc_t hg hv
theorem ss_lcFT (hg : GOk (gx X) is g d) (hv : ∀ i ∈ is, i ∈ vs) (h : PS X st (tAsg (tLc (tI (gx X) W di) g (tT (gx X) WN dt) (tE (gx X) WN de) vs) (gName i))) : SS X M0 H0 W st (sSet i (eFrz (nLc di d dt de vs))) := ss_lcF h fun _ _ _ => lc_t hg hv
theorem ss_lcNT (hg : GOk (gx X) is g d) (hv : ∀ i ∈ is, i ∈ vs) (h : PS X st (tAsg (tLc (tI (gx X) W di) g (tT (gx X) WN dt) (tE (gx X) WN de) vs) (gName i))) : SS X M0 H0 W st (sSet i (eNew (nLc di d dt de vs))) := ss_lcN h fun _ _ _ => lc_t hg hv
theorem ss_lcOT (hg : GOk (gx X) is g d) (hv : ∀ i ∈ is, i ∈ vs) (h : PS X st (tAsg (tLc (tI (gx X) W di) g (tT (gx X) WN dt) (tE (gx X) WN de) vs) (gName i))) : SS X M0 H0 W st (sSetOwn i (nLc di d dt de vs)) := ss_lcO h fun _ _ _ => lc_t hg hv
end
/-- a class's field, from the head's facts -/
theorem fld_of {G : Gx} {c f : Str} (hg : G.mg c = some (.ref (He.ga G.K c))) (hc : Cls G.K (He.ga G.K c)) (hn : NoAttr G.K (He.ga G.K c) f) : FldOk G c f := fun C h => by
  rw [hg] at h
  cases h
  exact ⟨hc, hn⟩
theorem noeq_of {G : Gx} {c : Str} (hg : G.mg c = some (.ref (He.ga G.K c))) (hn : NoEq G.K (He.ga G.K c)) : ∀ C, G.mg c = some (.ref C) → NoEq G.K C := fun C h => by
  rw [hg] at h
  cases h
  exact hn
theorem gs_in {is vs : List Nat} (h : (is.all fun i => vs.contains i) = true) : ∀ i ∈ is, i ∈ vs := fun i hi => by
  have := List.all_eq_true.mp h i hi
  simpa using this
/-- a def's function object is one -/
theorem fd_one {K : PySem.W.Frag} {x x' qual qual' : Str} {params params' : Arguments} {body body' : List Stmt} {scope scope' : Scope} {dvs dvs' : List V} {kws kws' : List (Str × V)} {f : Addr} {fd fd' : FuncData} (F : FunD K x qual params body scope dvs kws f fd) (F' : FunD K x' qual' params' body' scope' dvs' kws' f fd') : fd = fd' := by
  obtain ⟨oc, od, dV, kV, doc, pm, an, cdv, ct, osl, _, lk, _⟩ := F.ex
  obtain ⟨oc', od', dV', kV', doc', pm', an', cdv', ct', osl', _, lk', _⟩ := F'.ex
  rw [lk] at lk'
  injection lk' with e
  injection e with _ _ e
  injection e
end Dn

end
section
set_option Elab.async false
set_option linter.all false
set_option maxRecDepth 100000
set_option maxHeartbeats 4000000
/-! Promises of defs that are called while nothing is being shown by repr; the end of a law's row for these. -/
namespace Dn
open PySem PySem.Spec PyProof.Rows L2 LamX
/-- room, and no repr under way -/
structure RoomG (k : Nat) (A : Around) : Prop where
  r : Room k A
  g : A.guards = some []
theorem RoomG.mono {j k : Nat} {A : Around} (h : RoomG k A) (l : j ≤ k) : RoomG j A := ⟨h.r.mono l, h.g⟩
theorem RoomG.deeper {k : Nat} {A : Around} (h : RoomG (k + 1) A) (env : Env) : RoomG k (A.deeper env) := ⟨h.r.deeper env, h.g⟩
theorem make_guards {A : Around} {C : Addr} {us : List Value} {kw : List (Str × Value)} : (A.under (.builtin "type.__call__" ⟨.ref C :: us, kw⟩)).guards = A.guards := by
  first | rfl | simp [Around.under, Code.guards, Code.isGuard, pushGuards, guardIds]
theorem RoomG.make {k : Nat} {A : Around} (h : RoomG (k + 1) A) (C : Addr) (us : List Value) (kw : List (Str × Value)) : RoomG k (A.under (.builtin "type.__call__" ⟨.ref C :: us, kw⟩)) := ⟨h.r.make C us kw, make_guards.trans h.g⟩
theorem roomG_caller {k : Nat} (h : Room k callerA) : RoomG k callerA := ⟨h, rfl⟩
theorem hu0 {k : Nat} {A : Around} (h : RoomG k A) : A.units < cLine := by have := h.r.un; omega
theorem hu64 {k : Nat} {A : Around} (h : RoomG k A) : A.units + 64 < cLine := by have := h.r.un; omega
theorem hu65 {k : Nat} {A : Around} (h : RoomG k A) : A.units + 65 < cLine := by have := h.r.un; omega
theorem hu70 {k : Nat} {A : Around} (h : RoomG k A) : A.units + 70 < cLine := by have := h.r.un; omega
/-- a def's promise -/
structure FnG (P : Program) (w : World) (K : PySem.W.Frag) (mg : Str → Option Value) (base : Heap) (CX : CXT) (k : Nat) (f : Addr) (fd : FuncData) (ps : List Str) (sp : Sp) : Prop where
  len : ∀ vs H Q E, sp vs H Q E → vs.length = ps.length
  run : ∀ (A : Around) (outer : List Env) (s : Shared) (H : Hp) (args : Args) (us : List Value) (vs : List V) (Q : VK) (E : XK), RoomG k A → Env0 P w K mg base A outer s H → BindsTo s fd args (ps.zip us) → Vals vs us → sp vs H Q E →
    codeAny (model P w) A (.call (.ref f) args) (CR CX outer P w H s Q E) s
section
variable {P : Program} {w : World} {K : PySem.W.Frag} {mg : Str → Option Value} {base : Heap} {CX : CXT} {f : Addr} {fd : FuncData} {ps : List Str} {sp : Sp}
theorem FnG.mono {j k : Nat} (F : FnG P w K mg base CX j f fd ps sp) (h : j ≤ k) : FnG P w K mg base CX k f fd ps sp :=
  ⟨F.len, fun A outer s H args us vs Q E hr => F.run A outer s H args us vs Q E (hr.mono h)⟩
theorem FnG.of {k : Nat} (F : FnOk P w K mg base CX k f fd ps sp) : FnG P w K mg base CX k f fd ps sp :=
  ⟨F.len, fun A outer s H args us vs Q E hr => F.run A outer s H args us vs Q E hr.r⟩
theorem fn_g {x qual : Str} {params : Arguments} {body : List Stmt} {scope : Scope} {dvs : List V} {kws : List (Str × V)} {N : List Str} {k : Nat} (F : FunD K x qual params body scope dvs kws f fd) (S : FnScope N ps scope) (len : ∀ vs H Q E, sp vs H Q E → vs.length = ps.length)
    (hb : ∀ (cdv : Value) (A : Around) (outer : List Env) (s : Shared) (H : Hp) (vs : List V) (Q : VK) (E : XK), RoomG k (A.deeper (envOfC qual scope s.heap.objs.size f cdv)) → sp vs H Q E →
      ∃ t, PSs (cxOf CX P w K mg base N qual scope f cdv A outer s H E) body t ∧ t { nx := fun _ H' => Q .non H', rt := Q } (L2.start N vs) H) : FnG P w K mg base CX (k + 1) f fd ps sp := by
  obtain ⟨oc, od, dV, kV, doc, pm, an, cdv, ct, osl, rfl, lk, hcd, _, _⟩ := F.ex
  exact ⟨len, fun A outer s H args us vs Q E hr e0 hbd r hsp => run_ofS lk hcd S hr.r e0 hbd r (len vs H Q E hsp) fun hr' => hb cdv A outer s H vs Q E ⟨hr', hr.g⟩ hsp⟩
end
theorem fn_gl {P : Program} {w : World} {K : PySem.W.Frag} {mg : Str → Option Value} {base : Heap} {CX : CXT} {f : Addr} {name qual : Str} {params : Arguments} {body : List Stmt} {scope : Scope} {dV kV doc pm cdv ct oc : Value} {an od : Option Addr} {osl : Array (Option Value)} {N ps : List Str} {k : Nat} {sp : Sp}
    (lk : K.lookup f = some ⟨oc, od, .func (PySem.W.fnOf name qual params body scope dV kV doc pm an cdv ct), osl⟩) (hcd : PySem.W.codeIn K cdv qual = true) (S : FnScope N ps scope) (len : ∀ vs H Q E, sp vs H Q E → vs.length = ps.length)
    (hb : ∀ (A : Around) (outer : List Env) (s : Shared) (H : Hp) (vs : List V) (Q : VK) (E : XK), RoomG k (A.deeper (envOfC qual scope s.heap.objs.size f cdv)) → sp vs H Q E →
      ∃ t, PSs (cxOf CX P w K mg base N qual scope f cdv A outer s H E) body t ∧ t { nx := fun _ H' => Q .non H', rt := Q } (L2.start N vs) H) : FnG P w K mg base CX (k + 1) f (PySem.W.fnOf name qual params body scope dV kV doc pm an cdv ct) ps sp :=
  ⟨len, fun A outer s H args us vs Q E hr e0 hbd r hsp => run_ofS lk hcd S hr.r e0 hbd r (len vs H Q E hsp) fun hr' => hb A outer s H vs Q E ⟨hr', hr.g⟩ hsp⟩
section
variable {X : Cx} {k : Nat} {f : Addr} {fd : FuncData} {ps : List Str} {sp : Sp} {E : L2.St → XK} {x : Str} {p pos : Pos} {e : Expr} {es : List Expr} {t : TA}
/-- the def runs -/
theorem run_fnG {pins : List (Addr × Obj)} {σ : L2.St} {H : Hp} {s : Shared} {Q : VK} {us : List Value} {vs : List V} (F : FnG X.prog X.w X.K X.mg X.base (L2.CX X.prog X.w) k f fd ps sp) (hr : RoomG k X.A) (hb : Binds X.K fd ps []) (hx : PassesAt (L2.CX X.prog X.w) X σ (E σ))
    (I : Inv X pins σ H s) (r : Vals vs us) (h : sp vs H Q (E σ)) : wpAny (model X.prog X.w) X.A (call (.ref f) us) (EP X pins σ Q) X.xe s := by
  have n : us.length = ps.length := r.length.symm.trans (F.len vs H Q (E σ) h)
  have bd := hb s us I.kIn (by simpa using n)
  simp only [List.append_nil] at bd
  have go := F.run X.A X.stack s H ⟨us, []⟩ us vs Q (E σ) hr I.env0 bd r h
  refine wpAny_call (codeAny_mono go ?_)
  intro res s' hq
  match res, hq with
  | .error ex, hq => exact hx pins H s ex s' I hq
  | .ok (.ret u), hq => exact I.after hq
  | .ok .next, hq => exact hq.elim
  | .ok .brk, hq => exact hq.elim
  | .ok .cont, hq => exact hq.elim
theorem pe_callG (F : FnG X.prog X.w X.K X.mg X.base (L2.CX X.prog X.w) k f fd ps sp) (hr : RoomG k X.A) (hg : Gl X x) (hm : X.mg x = some (.ref f)) (hk : PySem.W.keepIn X.K (.ref f) = true) (hb : Binds X.K fd ps []) (hx : ∀ σ, PassesAt (L2.CX X.prog X.w) X σ (E σ))
    (ha : PA X (e :: es) t) (hdb : (x == ("__debug__" : Str)) = false := by decide) (he : starEach (e :: es) X.env = (false, eval e X.env) :: starEach es X.env := by rfl) (hpl : (backTo pos (starEach es X.env)).any (·.1) = false := by rfl) :
    PE X (.Call (.Name x p) (e :: es) [] pos) (tCallS sp E t) := by
  constructor
  intro pins s z H Q I h
  refine wpAny_Call_Name_kw (ld_glob I hg hm ?_ hdb)
  have args := ha.run pos pins s z H _ I h
  refine PySem.W.callWith_K (h₀ := X.base) I.ok.mod.kin hk (thn args fun us s1 hh => ?_) he hpl
  obtain ⟨vs, H1, I1, r, q⟩ := hh
  exact ⟨I1.kIn, run_fnG F hr hb (hx z) I1 r q⟩
end
/-! ### the end -/
/-- what is tracked at the entry: at most the script and the tables -/
structure Few (h : Heap) (H : Hp) (a : Addr) (ts : List Addr) : Prop where
  dom : ∀ b, H b = none ∨ b = a ∨ b ∈ ts
  scr : ∃ vs : Array Value, h.get? a = some { cls := .type "list", data := .seq vs }
  tab : ∀ b ∈ ts, h.get? b = some { cls := .none, data := .fields #[] }
section
variable {h : Heap} {H : Hp} {a : Addr} {ts : List Addr}
theorem Few.out (F : Few h H a ts) {b : Addr} {o : Obj} (e : h.get? b = some o) (n1 : ∀ vs n, o.data ≠ .seq vs n) (n2 : o.data ≠ .fields #[]) : H b = none := by
  obtain ⟨vs, hs⟩ := F.scr
  rcases F.dom b with q | rfl | q
  · exact q
  · rw [hs] at e
    cases e
    exact absurd rfl (n1 _ _)
  · rw [F.tab b q] at e
    cases e
    exact absurd rfl n2
theorem Few.at (F : Few h H a ts) {b : Addr} {o : Obj} (e : h.get? b = some o) (n1 : ∀ vs n, o.data ≠ .seq vs n) (n2 : o.data ≠ .fields #[]) : (hidT h H).get? b = some o := hidT_get e (F.out e n1 n2)
theorem Few.ns (F : Few h H a ts) {b : Addr} {m : Str → Option Value} (n : h.Ns b m) : (hidT h H).Ns b m := by
  obtain ⟨o, es, ep, e, d, r⟩ := n
  exact ⟨o, es, ep, F.at e (fun vs n z => by rw [d] at z; cases z) (fun z => by rw [d] at z; cases z), d, r⟩
theorem Few.tabB (F : Few h H a ts) {mg : Str → Option Value} (G : h.Ns mainGlobals mg) (B : ∃ (bm : Addr) (ob : Obj), mg "__builtins__" = some (.ref bm) ∧ bm ≠ builtinsNs ∧ h.get? bm = some ob ∧ ob.cls = .type "module" ∧ ob.dict = some builtinsNs ∧ ob.data = .plain)
    {c P : Addr} (C : PySem.W.CodeHd h c P) (hP : P ∈ ts) : TabB (hidT h H) mg c P := by
  have tP := F.tab P hP
  constructor
  · obtain ⟨o, us, file, tf, flags, tg, inF, text, tt, e, q1, q2, q3, q4⟩ := C
    refine ⟨o, us, file, tf, flags, tg, inF, text, tt, F.at e (fun vs n z => ?_) (fun z => ?_), q1, q2, q3, q4⟩
    · rw [q2] at z; cases z
    · rw [q2] at z
      injection z with z
      rw [z] at q3
      simp at q3
  · obtain ⟨bm, ob, b1, b2, b3, b4, b5, b6⟩ := B
    have x1 : bm ≠ mainGlobals := by
      rintro rfl
      obtain ⟨o, es, ep, e, d, _⟩ := G
      cases e.symm.trans b3
      rw [d] at b6; cases b6
    have x2 : bm ≠ P := by
      rintro rfl
      cases tP.symm.trans b3
      cases b6
    exact ⟨bm, ob, b1, b2, x1, x2, F.at b3 (fun vs n z => by rw [b6] at z; cases z) (fun z => by rw [b6] at z; cases z), b4, b5, b6⟩
  · intro z
    obtain ⟨o, es, ep, e, d, _⟩ := G
    rw [z, tP] at e
    cases e
    cases d
end
section
variable {P : Program} {w : World} {K : PySem.W.Frag} {mg mb : Str → Option Value} {k : Nat} {fa a : Addr} {cs : List (Addr × Addr)} {fd : FuncData} {x : Str} {sp : Sp} {s : Shared} {vs : List Value} {ns : List Int}
/-- from one abstract heap -/
theorem end_core {H : Hp} (KX : K.In s.heap) (G : s.heap.Ns mainGlobals mg) (hb : s.heap.Ns builtinsNs mb) (hbb : ∀ x : Str, x ≠ "__name__" → mb x = bootBuiltins x) (lim : s.heap.NoLimit) (hg : s.gens = #[])
    (hT : ∀ p ∈ cs, s.heap.get? p.2 = some { cls := .none, data := .fields #[] }) (nT : ∀ p ∈ cs, K.lookup p.2 = none) (C : ∀ p ∈ cs, PySem.W.CodeHd s.heap p.1 p.2)
    (B : ∃ (bm : Addr) (ob : Obj), mg "__builtins__" = some (.ref bm) ∧ bm ≠ builtinsNs ∧ s.heap.get? bm = some ob ∧ ob.cls = .type "module" ∧ ob.dict = some builtinsNs ∧ ob.data = .plain)
    (hr : Room k callerA) (FF : ∀ base : Heap, K.In base → base.Ns mainGlobals mg → (∀ p ∈ cs, TabB base mg p.1 p.2) → FnG P w K mg base (L2.CX P w) k fa fd [x] sp)
    (hbind : ∀ (s : Shared) (u : Value), BindsTo s fd ⟨[u], []⟩ [(x, u)])
    (F : Few s.heap H a (cs.map (·.2))) (hok : HOk P w H s.heap) (hK : ∀ b, H b ≠ none → b = a → K.lookup b = none) (tH : ∀ p ∈ cs, H p.2 = some (.tbl #[])) (kind : ∀ b, b ∉ cs.map (·.2) → H b = none ∨ ∃ o xs, H b = some (.frz o (.lst xs)))
    (hsp : sp [.ref a] H (fun v _ => v = .bl true) fun _ _ _ => False) :
    codeAny (model P w) callerA (.call (.ref fa) ⟨[.ref a], []⟩) (fun r s' => r = .ok (.ret (.bool true)) ∧ OldK s.heap s'.heap ∧ s'.os = s.os ∧ AllBare s'.gens) s := by
  have inT : ∀ p ∈ cs, p.2 ∈ cs.map (·.2) := fun p hp => List.mem_map_of_mem hp
  have kin : K.In (hidT s.heap H) := fun b o e => by
    refine hidT_get (KX b o e) ?_
    rcases Classical.em (H b = none) with q | q
    · exact q
    · rcases F.dom b with z | z | z
      · exact z
      · rw [hK b q z] at e; cases e
      · obtain ⟨p, hp, rfl⟩ := List.mem_map.mp z
        rw [nT p hp] at e; cases e
  have md : L2.Mod K mg (hidT s.heap H) := by
    obtain ⟨mc, l1, l2⟩ := lim
    exact ⟨kin, F.ns G, ⟨mb, F.ns hb, hbb⟩, mc, F.ns l1, l2⟩
  have env : Env0 P w K mg (hidT s.heap H) callerA [] s H := by
    refine ⟨rfl, md, fun b o e => of_hidT e, Nat.le_of_eq (hidT_size _ _), trivial, fun b z => ?_, hok, .of_eq hg⟩
    cases (show b ∈ ([] : List Addr) from z)
  have go := (FF _ kin (F.ns G) fun p hp => F.tabB G B (C p hp) (inT p hp)).run callerA [] s H ⟨[.ref a], []⟩ [.ref a] [.ref a] _ _ (roomG_caller hr) env (hbind s (.ref a)) (.cons rfl .nil) hsp
  refine codeAny_mono go ?_
  intro res s' hq
  match res, hq with
  | .error e, hq =>
    obtain ⟨_, _, _, _, _, _, _, _, _, _, _, _, z⟩ := hq
    exact z.elim
  | .ok .next, hq => exact hq.elim
  | .ok .brk, hq => exact hq.elim
  | .ok .cont, hq => exact hq.elim
  | .ok (.ret u), hq =>
    obtain ⟨v, H', os, bare, un, ok', rv, rfl⟩ := hq
    cases (show u = Value.bool true from rv)
    have tabs : ∀ b ∈ cs.map (·.2), ∃ p ∈ cs, p.2 = b ∧ ∃ more : Array Value, s'.heap.get? b = some { cls := .none, data := .fields more } := fun b z => by
      obtain ⟨p, hp, rfl⟩ := List.mem_map.mp z
      obtain ⟨more, e⟩ := un.tbls p.2 #[] (tH p hp)
      exact ⟨p, hp, rfl, _, ok' p.2 _ e⟩
    have same : ∀ b o, b ∉ cs.map (·.2) → s.heap.get? b = some o → s'.heap.get? b = some o := fun b o nb e => by
      rcases kind b nb with q | ⟨ob, xs, q⟩
      · exact un.keep b o e q (fun z => by cases (show b ∈ ([] : List Addr) from z)) (fun z => by cases z)
      · have e1 := (hok b _ q).1
        have e2 := (ok' b _ (un.frzs b ob _ q)).1
        rw [e] at e1
        cases e1
        exact e2
    refine ⟨rfl, ⟨?_, ?_⟩, os, bare⟩
    · intro b o e
      rcases Classical.em (b ∈ cs.map (·.2)) with z | z
      · obtain ⟨p, hp, rfl, more, e2⟩ := tabs b z
        have e3 := hT p hp
        rw [e3] at e
        cases e
        refine .inr (.inl ⟨((C p hp).tab e3).isCodeTable, rfl, #[], more, rfl, ?_⟩)
        rw [Array.empty_append]
        exact e2
      · exact .inl (same b o z e)
    · intro b o e
      rcases Classical.em (b ∈ cs.map (·.2)) with z | z
      · obtain ⟨p, hp, rfl, more, e2⟩ := tabs b z
        exact ⟨_, e2⟩
      · exact ⟨o, same b o z e⟩
theorem end_call (KX : K.In s.heap) (G : s.heap.Ns mainGlobals mg) (hb : s.heap.Ns builtinsNs mb) (hbb : ∀ x : Str, x ≠ "__name__" → mb x = bootBuiltins x) (lim : s.heap.NoLimit) (hg : s.gens = #[])
    (hT : ∀ p ∈ cs, s.heap.get? p.2 = some { cls := .none, data := .fields #[] }) (nT : ∀ p ∈ cs, K.lookup p.2 = none) (C : ∀ p ∈ cs, PySem.W.CodeHd s.heap p.1 p.2)
    (B : ∃ (bm : Addr) (ob : Obj), mg "__builtins__" = some (.ref bm) ∧ bm ≠ builtinsNs ∧ s.heap.get? bm = some ob ∧ ob.cls = .type "module" ∧ ob.dict = some builtinsNs ∧ ob.data = .plain)
    (ha : s.heap.get? a = some { cls := .type "list", data := .seq vs.toArray }) (hi : IntsAre vs ns) (hl : ns.length ≤ sizeLine) (hr : Room k callerA)
    (FF : ∀ base : Heap, K.In base → base.Ns mainGlobals mg → (∀ p ∈ cs, TabB base mg p.1 p.2) → FnG P w K mg base (L2.CX P w) k fa fd [x] sp) (hbind : ∀ (s : Shared) (u : Value), BindsTo s fd ⟨[u], []⟩ [(x, u)])
    (hsp : ∀ H : Hp, (∀ p ∈ cs, H p.2 = some (.tbl #[])) → SqL K H a (ns.map V.int) → sp [.ref a] H (fun v _ => v = .bl true) fun _ _ _ => False) :
    codeAny (model P w) callerA (.call (.ref fa) ⟨[.ref a], []⟩) (fun r s' => r = .ok (.ret (.bool true)) ∧ OldK s.heap s'.heap ∧ s'.os = s.os ∧ AllBare s'.gens) s := by
  classical
  have rel := vals_ints hi
  have apart : a ∉ cs.map (·.2) := fun z => by
    obtain ⟨p, hp, rfl⟩ := List.mem_map.mp z
    cases (hT p hp).symm.trans ha
  have tb : ∀ b ∈ cs.map (·.2), s.heap.get? b = some { cls := .none, data := .fields #[] } := fun b z => by
    obtain ⟨p, hp, rfl⟩ := List.mem_map.mp z
    exact hT p hp
  have inT : ∀ p ∈ cs, p.2 ∈ cs.map (·.2) := fun p hp => List.mem_map_of_mem hp
  -- the script stands in the text's own part, or it is tracked
  let scr : Option HO := if K.lookup a = none then some (.frz { cls := .type "list", data := .seq vs.toArray } (.lst (ns.map V.int))) else none
  let H : Hp := fun b => if b = a then scr else if b ∈ cs.map (·.2) then some (.tbl #[]) else none
  have Ha : H a = scr := if_pos rfl
  have Ht : ∀ b, b ∈ cs.map (·.2) → H b = some (.tbl #[]) := fun b z => (if_neg (fun q : b = a => apart (q ▸ z))).trans (if_pos z)
  have Hn : ∀ b, b ≠ a → b ∉ cs.map (·.2) → H b = none := fun b n z => (if_neg n).trans (if_neg z)
  have sizes : (ns.map V.int).length ≤ sizeLine := by rw [List.length_map]; exact hl
  have okA : ObjOk P w H s.heap a (.frz { cls := .type "list", data := .seq vs.toArray } (.lst (ns.map V.int))) := ⟨ha, sizes, vs, _, rel, ha⟩
  refine end_core (H := H) KX G hb hbb lim hg hT nT C B hr FF hbind ⟨fun b => ?_, ⟨_, ha⟩, tb⟩ (fun b u e => ?_) (fun b n q => ?_) (fun p hp => Ht _ (inT p hp)) (fun b n => ?_) (hsp H (fun p hp => Ht _ (inT p hp)) ?_)
  · rcases Classical.em (b = a) with q | q
    · exact .inr (.inl q)
    · rcases Classical.em (b ∈ cs.map (·.2)) with z | z
      · exact .inr (.inr z)
      · exact .inl (Hn b q z)
  · rcases Classical.em (b = a) with rfl | q
    · rw [Ha] at e
      by_cases hk : K.lookup b = none
      · have e' : some (HO.frz { cls := .type "list", data := .seq vs.toArray } (.lst (ns.map V.int))) = some u := (if_pos hk).symm.trans e
        cases e'
        exact okA
      · cases (if_neg hk).symm.trans e
    · rcases Classical.em (b ∈ cs.map (·.2)) with z | z
      · rw [Ht b z] at e
        cases e
        exact tb b z
      · rw [Hn b q z] at e
        cases e
  · subst q
    rw [Ha] at n
    by_cases hk : K.lookup b = none
    · exact hk
    · exact absurd (if_neg hk) n
  · rcases Classical.em (b = a) with rfl | q
    · rw [Ha]
      by_cases hk : K.lookup b = none
      · exact .inr ⟨_, _, if_pos hk⟩
      · exact .inl (if_neg hk)
    · exact .inl (Hn b q n)
  · by_cases hk : K.lookup a = none
    · exact .inl (.inr ⟨_, Ha.trans (if_pos hk)⟩)
    · cases q : K.lookup a with
      | none => exact absurd q hk
      | some o =>
        cases ha.symm.trans (KX a o q)
        exact .inr ⟨_, vs.toArray, _, q, rfl, rfl, rfl, by rw [List.size_toArray, hi.length]; exact hl, by simpa using rel⟩
end
end Dn

end
section
set_option Elab.async false
set_option linter.all false
set_option maxRecDepth 100000
set_option maxHeartbeats 4000000
/-! Calls that may let an exception out; pins change. -/
namespace Dn
open PySem PySem.Spec PyProof.Rows L2
variable [Tb]
/-! ### what is told does not hang on the pins -/
section
variable {G : Gx} {pn : List (Addr × Obj)} {lm : Option (Addr × Mp × Hp)} {M : Mp}
abbrev Gx.at_ (G : Gx) (pn : List (Addr × Obj)) (lm : Option (Addr × Mp × Hp)) : Gx := ⟨G.K, G.mg, G.T, pn, lm⟩
mutual
theorem RelD.g : ∀ {d : D} {v : V}, RelD G M d v → RelD (G.at_ pn lm) M d v
  | .non, _, h => h
  | .bl _, _, h => h
  | .int _, _, h => h
  | .str _, _, h => h
  | .tup ds, _, h => by
    obtain ⟨a, vs, rfl, h1, h2⟩ := h
    exact ⟨a, vs, rfl, h1, RelDs.g h2⟩
  | .lst ds, _, h => by
    obtain ⟨a, vs, rfl, h1, h2⟩ := h
    exact ⟨a, vs, rfl, h1, RelDs.g h2⟩
  | .ref l, _, h => h
  | .cls _, _, h => h
  | .fn _, _, h => h
theorem RelDs.g : ∀ {ds : List D} {vs : List V}, RelDs G M ds vs → RelDs (G.at_ pn lm) M ds vs
  | [], _, h => h
  | d :: ds, _, h => by
    obtain ⟨v, r, rfl, h1, h2⟩ := h
    exact ⟨v, r, rfl, RelD.g h1, RelDs.g h2⟩
end
theorem RelFs.g : ∀ {ds : List (Str × D)} {vs : List (Str × V)}, RelFs G M ds vs → RelFs (G.at_ pn lm) M ds vs
  | [], _, h => h
  | (f, d) :: ds, _, h => by
    obtain ⟨v, r, rfl, h1, h2⟩ := h
    exact ⟨v, r, rfl, RelD.g h1, RelFs.g h2⟩
theorem ObjR.g {o : SO} {x : Option HO} (h : ObjR G M o x) : ObjR (G.at_ pn lm) M o x := by
  cases o with
  | lst ds => obtain ⟨vs, h1, h2⟩ := h; exact ⟨vs, h1, RelDs.g h2⟩
  | ins c fs => obtain ⟨C, dx, vfs, h1, h2, h3⟩ := h; exact ⟨C, dx, vfs, h1, h2, RelFs.g h3⟩
  | dct _ _ => exact DctR.map (fun _ _ q => RelD.g q) h
theorem RelH.g {S : Store} {H : Hp} (h : RelH G M S H) : RelH (G.at_ pn lm) M S H :=
  ⟨fun l o q => let ⟨a, e1, e2⟩ := h.obj l o q; ⟨a, e1, e2.g⟩, h.dom, h.inj, h.tup, h.lst, h.apt, h.tabs⟩
theorem ExcR.g {fs : List (Str × D)} {dx : Option Addr} {H : Hp} (h : ExcR G M fs dx H) : ExcR (G.at_ pn lm) M fs dx H := by
  rcases h with h | ⟨d, vfs, h1, h2, h3, h4⟩
  · exact .inl h
  · exact .inr ⟨d, vfs, h1, h2, h3.g, h4⟩
theorem Post.g {W : WX} {H : Hp} {s : L2.St} {r : Rs D} {Q : VK} (h : Post G (RD G) W M H s r Q) : Post (G.at_ pn lm) (RD (G.at_ pn lm)) W M H s r Q := by
  cases r with
  | ok x S => exact fun M' y H' e rh rd => h M' y H' e (RelH.g (pn := G.pn) (lm := G.lam) (G := G.at_ pn lm) rh) (RelD.g (pn := G.pn) (lm := G.lam) (G := G.at_ pn lm) rd)
  | exc c fs S => exact fun M' H' C dx e rh g x => h M' H' C dx e (RelH.g (pn := G.pn) (lm := G.lam) (G := G.at_ pn lm) rh) g (ExcR.g (pn := G.pn) (lm := G.lam) (G := G.at_ pn lm) x)
  | bad => exact h
end
section
variable {X : Cx} {W : WX} {k : Nat} {f C : Addr} {fd : FuncData} {ps : List Str} {m : Fn} {x mn c : Str} {p pos apos : Pos} {e o : Expr} {es : List Expr} {da : DE} {ds : DA}
/-- a promise, from a caller's context -/
theorem spD_at {M : Mp} {xs : List D} {S : Store} {vs : List V} {H : Hp} {s : L2.St} {Q : VK} {E : XK} (h1 : RelDs (gx X) M xs vs) (h2 : RelH (gx X) M S H) (hE : ∀ cls dx H', W cls dx s H' → E cls dx H') (h : Post (gx X) (RD (gx X)) W M H s (m xs S) Q) :
    spD (gk X.K X.mg) m vs H Q E := spD_of (G := gk X.K X.mg) (RelDs.g (G := gx X) (pn := []) (lm := Tb.lam) h1) (RelH.g (G := gx X) (pn := []) (lm := Tb.lam) h2) hE (Post.g (G := gx X) (pn := []) (lm := Tb.lam) h)
/-- a def of the text, called -/
theorem sx_call (F : FnG X.prog X.w X.K X.mg X.base (L2.CX X.prog X.w) k f fd ps (spD (gk X.K X.mg) m)) (hr : RoomG k X.A) (hg : Gl X x) (hm : X.mg x = some (.ref f)) (hk : PySem.W.keepIn X.K (.ref f) = true) (hb : Binds X.K fd ps []) (tk : Takes X W)
    (ha : SA X W (e :: es) ds) (hdb : (x == ("__debug__" : Str)) = false := by decide) (he : starEach (e :: es) X.env = (false, eval e X.env) :: starEach es X.env := by rfl) (hpl : (backTo pos (starEach es X.env)).any (·.1) = false := by rfl) :
    SE X W (.Call (.Name x p) (e :: es) [] pos) (eCall m ds) := by
  refine (pe_callG (E := WE W) F hr hg hm hk hb (fun σ => passAt tk σ) ha hdb he hpl).dimp ?_
  rintro s H Q ⟨M, r, S, en, rh, p⟩
  refine ⟨M, r, S, en, rh, (Post.bind (R := RA (gx X)) p).imp fun vs H1 h => ?_⟩
  obtain ⟨M1, xs, S1, e1, rh1, rd1, p1⟩ := h
  exact spD_at rd1 rh1 (fun _ _ _ z => z) p1
theorem sx_call0 (F : FnG X.prog X.w X.K X.mg X.base (L2.CX X.prog X.w) k f fd ps (spD (gk X.K X.mg) m)) (hr : RoomG k X.A) (hg : Gl X x) (hm : X.mg x = some (.ref f)) (hk : PySem.W.keepIn X.K (.ref f) = true) (hb : Binds X.K fd ps []) (tk : Takes X W)
    (hdb : (x == ("__debug__" : Str)) = false := by decide) : SE X W (.Call (.Name x p) [] [] pos) (eCall m aNil) := by
  refine ⟨fun pins s σ H Q I h => ?_⟩
  obtain ⟨M, r, S, en, rh, p⟩ := h
  have p : Post (gx X) (RD (gx X)) W M H σ (m [] S) Q := p
  refine wpAny_Call_Name_kw (ld_glob I hg hm ?_ hdb)
  exact PySem.W.callWith_K0 I.kIn hk (run_fnG (E := WE W) (us := []) F hr hb (passAt tk σ) I .nil (spD_at (vs := []) (xs := []) rfl rh (fun _ _ _ z => z) p))
/-- what a method's call asks of the receiver -/
def recvD (c m : Str) (S : Store) (x : D) (k : Rs D) : Rs D := match x with
  | .ref l => (match S[l]? with
    | some (.ins c' fs) => if c' = c ∧ fs.lookup m = none then k else .bad
    | _ => .bad)
  | _ => .bad
theorem recv {c : Str} {C : Addr} {M1 : Mp} {S1 : Store} {H1 : Hp} {s : L2.St} {v : V} {d : D} {Q : VK} {k : Rs D} (hC : X.mg c = some (.ref C)) (rh1 : RelH (gx X) M1 S1 H1) (rd1 : RelD (gx X) M1 d v)
    (p1 : Post (gx X) (RD (gx X)) W M1 H1 s (recvD c mn S1 d k) Q) : ∃ l a dx fs, d = .ref l ∧ v = .ref a ∧ H1 a = some (.ins C dx fs) ∧ fs.lookup mn = none ∧ Post (gx X) (RD (gx X)) W M1 H1 s k Q := by
  cases d with
  | ref l =>
    obtain ⟨pa, rfl, h1⟩ := rd1
    dsimp only [recvD] at p1
    cases q : S1[l]? with
    | none => rw [q] at p1; exact p1.elim
    | some o =>
      rw [q] at p1
      cases o with
      | ins k fs =>
        dsimp only at p1
        obtain ⟨a2, x1, C2, dx, vfs, x2, x3, x4⟩ := rh1.obj l _ q
        rw [h1] at x1; cases x1
        split at p1
        · rename_i hk
          obtain ⟨rfl, hn⟩ := hk
          have x3 : X.mg k = some (.ref C2) := x3
          rw [hC] at x3
          cases x3
          exact ⟨l, pa, dx, vfs, rfl, rfl, x2, x4.lookupN hn, p1⟩
        · exact p1.elim
      | lst _ => exact p1.elim
      | dct _ _ => exact p1.elim
  | _ => exact p1.elim
theorem sx_meth {pl : Sem Bool} {g : Fn} (hC : X.mg c = some (.ref C)) (he : SE X W o da) (cl : Cls X.K C) (hm : Meth X.K C mn f) (F : FnG X.prog X.w X.K X.mg X.base (L2.CX X.prog X.w) k f fd ps (spD (gk X.K X.mg) g)) (hr : RoomG k X.A) (hb : Binds X.K fd ps []) (tk : Takes X W)
    (ha : SA X W (e :: es) ds) (hst : starEach (e :: es) X.env = (false, eval e X.env) :: starEach es X.env := by rfl) (hpl : (backTo pos (starEach es X.env)).any (·.1) = false := by rfl)
    (ht : eval (.Call (.Attribute o mn apos) (e :: es) [] pos) X.env = (do
      let ov ← eval o X.env
      standAt apos.atName
      let (f, first) ← holding [ov] (getMethod ov mn pl)
      callWith pos f first (backTo pos (starEach (e :: es) X.env)) (backToKw pos (keywordEach [] X.env))) := by rfl) :
    SE X W (.Call (.Attribute o mn apos) (e :: es) [] pos) (eMeth c mn g da ds) := by
  refine ⟨fun pins s σ H Q I h => ?_⟩
  obtain ⟨M, r, S, en, rh, p⟩ := h
  refine PySem.W.methodCall_KW (pl := pl) (thn (he.run pins s σ H _ I ⟨M, r, S, en, rh, (Post.bind (R := RD (gx X)) p).imp fun v H1 h => (show ∃ a dx fs, v = V.ref a ∧ H1 a = some (.ins C dx fs) ∧ fs.lookup mn = none ∧ tA (gx X) W ds σ H1 (fun vs H2 => spD (gk X.K X.mg) g (V.ref a :: vs) H2 Q (WE W σ)) from ?_)⟩) fun u s1 ⟨x, H1, I1, rx, a, dx, fs, ex, ea, l, q⟩ => ?_) ht
  · obtain ⟨M1, d, S1, e1, rh1, rd1, p1⟩ := h
    have p1 : Post (gx X) (RD (gx X)) W M1 H1 σ (recvD c mn S1 d ((ds r S1).bind fun xs S => g (d :: xs) S)) Q := p1
    obtain ⟨l, a, dx, fs, rfl, rfl, h1, h2, p2⟩ := recv hC rh1 rd1 p1
    refine ⟨a, dx, fs, rfl, h1, h2, M1, r, S1, en.mono e1, rh1, (Post.bind (R := RA (gx X)) p2).imp fun vs H2 h => ?_⟩
    obtain ⟨M2, xs, S2, e2, rh2, rd2, p3⟩ := h
    exact spD_at (xs := .ref l :: xs) (RelDs.cons (RelD.mono (G := gx X) (d := .ref l) e2 rd1) rd2) rh2 (fun _ _ _ z => z) p3
  · subst ex
    obtain rfl : u = Value.ref a := rx
    refine getmeth_ok I1 ea cl hm l ?_
    refine PySem.W.callWith_K (first := [.ref a]) (h₀ := X.base) I.ok.mod.kin hm.kp (thn (ha.run pos pins s1 σ H1 _ I1 q) fun us s2 ⟨vs, H2, I2, r, q2⟩ => ⟨I2.kIn, ?_⟩) hst hpl
    exact run_fnG (E := WE W) (us := .ref a :: us) (vs := .ref a :: vs) F hr hb (passAt tk σ) I2 (.cons rfl r) q2
theorem sx_meth0 {pl : Sem Bool} {g : Fn} (hC : X.mg c = some (.ref C)) (he : SE X W o da) (cl : Cls X.K C) (hm : Meth X.K C mn f) (F : FnG X.prog X.w X.K X.mg X.base (L2.CX X.prog X.w) k f fd ps (spD (gk X.K X.mg) g)) (hr : RoomG k X.A) (hb : Binds X.K fd ps []) (tk : Takes X W)
    (ht : eval (.Call (.Attribute o mn apos) [] [] pos) X.env = (do
      let ov ← eval o X.env
      standAt apos.atName
      let (f, first) ← holding [ov] (getMethod ov mn pl)
      callWith pos f first (backTo pos (starEach [] X.env)) (backToKw pos (keywordEach [] X.env))) := by rfl) :
    SE X W (.Call (.Attribute o mn apos) [] [] pos) (eMeth c mn g da aNil) := by
  refine ⟨fun pins s σ H Q I h => ?_⟩
  obtain ⟨M, r, S, en, rh, p⟩ := h
  refine PySem.W.methodCall_KW (pl := pl) (thn (he.run pins s σ H _ I ⟨M, r, S, en, rh, (Post.bind (R := RD (gx X)) p).imp fun v H1 h => (show ∃ a dx fs, v = V.ref a ∧ H1 a = some (.ins C dx fs) ∧ fs.lookup mn = none ∧ spD (gk X.K X.mg) g [V.ref a] H1 Q (WE W σ) from ?_)⟩) fun u s1 ⟨x, H1, I1, rx, a, dx, fs, ex, ea, l, q⟩ => ?_) ht
  · obtain ⟨M1, d, S1, e1, rh1, rd1, p1⟩ := h
    have p1 : Post (gx X) (RD (gx X)) W M1 H1 σ (recvD c mn S1 d (g [d] S1)) Q := p1
    obtain ⟨l, a, dx, fs, rfl, rfl, h1, h2, p2⟩ := recv hC rh1 rd1 p1
    have p2 : Post (gx X) (RD (gx X)) W M1 H1 σ (g [.ref l] S1) Q := p2
    exact ⟨a, dx, fs, rfl, h1, h2, spD_at (xs := [.ref l]) (RelDs.cons rd1 rfl) rh1 (fun _ _ _ z => z) p2⟩
  · subst ex
    obtain rfl : u = Value.ref a := rx
    refine getmeth_ok I1 ea cl hm l ?_
    exact PySem.W.callWith_K0 (first := [.ref a]) I1.kIn hm.kp (run_fnG (E := WE W) (us := [.ref a]) (vs := [.ref a]) F hr hb (passAt tk σ) I1 (.cons rfl .nil) q)
/-- a new instance -/
theorem run_makeS {sp : Sp} {E : L2.St → XK} {pins : List (Addr × Obj)} {σ : L2.St} {H : Hp} {s : Shared} {Q : VK} {us : List Value} {vs : List V} (M : Mk X.K C f) (F : FnG X.prog X.w X.K X.mg X.base (L2.CX X.prog X.w) k f fd ps sp) (hr : RoomG (k + 1) X.A) (hb : Binds X.K fd ps [])
    (hx : PassesAt (L2.CX X.prog X.w) X σ (E σ)) (I : Inv X pins σ H s) (r : Vals vs us)
    (h : ∀ x dx, H x = none → H dx = none → dx ≠ x → sp (.ref x :: vs) (upd (upd H dx (.own x)) x (.ins C dx [])) (fun v H2 => v = .non ∧ Q (.ref x) H2) (E σ)) :
    wpAny (model X.prog X.w) X.A (call (.ref C) us) (EP X pins σ Q) X.xe s := by
  have hq := h (s.heap.objs.size + 1) s.heap.objs.size (I.hok.fresh (Nat.le_succ _)) (I.hok.fresh (Nat.le_refl _)) (Nat.ne_of_lt (Nat.lt_succ_self _))
  have I2 := Inv.made (C := C) I
  have r2 : Vals (V.ref (s.heap.objs.size + 1) :: vs) (Value.ref (s.heap.objs.size + 1) :: us) := .cons rfl r
  have hl : (Value.ref (s.heap.objs.size + 1) :: us).length = ps.length := by
    have e := r2.length
    rw [F.len _ _ _ _ hq] at e
    exact e.symm
  have b := hb _ (Value.ref (s.heap.objs.size + 1) :: us) I2.kIn (by rw [List.append_nil]; exact hl)
  rw [List.append_nil] at b
  refine wpAny_call (make_map (f := f) I.kIn M.makes M.init (beq_iff_eq.mp M.fn) (codeAny_mono (F.run _ X.stack _ _ ⟨Value.ref (s.heap.objs.size + 1) :: us, []⟩ (Value.ref (s.heap.objs.size + 1) :: us) _ _ (E σ) (hr.make C us [])
    (I2.env0.make C us []) b r2 hq) fun r s' hq' => ?_))
  cases r with
  | error e => exact hx pins _ _ e s' I2 hq'
  | ok fl =>
    cases fl with
    | ret u =>
      obtain ⟨v, H', I3, rv, ev, q3⟩ := I2.after hq'
      subst ev
      exact ⟨rv, ⟨V.ref (s.heap.objs.size + 1), H', I3, rfl, q3⟩⟩
    | next => exact False.elim hq'
    | brk => exact False.elim hq'
    | cont => exact False.elim hq'
theorem make_goW {g : Fn} {M1 : Mp} {S1 : Store} {H1 : Hp} {xs : List D} {vs : List V} {s : L2.St} {Q : VK} (hC : X.mg c = some (.ref C)) (rh1 : RelH (gx X) M1 S1 H1) (rd1 : RelDs (gx X) M1 xs vs)
    (p1 : Post (gx X) (RD (gx X)) W M1 H1 s ((g (.ref S1.length :: xs) (S1 ++ [.ins c []])).bind fun v S2 => match v with
      | .non => .ok (.ref S1.length) S2
      | _ => .bad) Q) (x dx : Addr) (hx : H1 x = none) (hd : H1 dx = none) (ne : dx ≠ x) :
    spD (gk X.K X.mg) g (.ref x :: vs) (upd (upd H1 dx (.own x)) x (.ins C dx [])) (fun v H2 => v = .non ∧ Q (.ref x) H2) (WE W s) := by
  have hx' : upd H1 dx (.own x) x = none := by rw [upd_ne (Ne.symm ne)]; exact hx
  obtain ⟨M2, e2, rh2, rd2⟩ := loc_any (o := .ins c []) (ho := .ins C dx []) (rh1.other (o := .own x) hd) hx' ⟨C, dx, [], rfl, hC, rfl⟩
  have e12 : Ext M1 H1 M2 _ := (Ext.other hd).trans e2
  refine spD_at (W := W) (s := s) (xs := .ref S1.length :: xs) (RelDs.cons rd2 (rd1.mono e12)) rh2 (fun _ _ _ z => z) ?_
  cases q : g (.ref S1.length :: xs) (S1 ++ [.ins c []]) with
  | ok v S2 =>
    rw [q] at p1
    intro M' y H' e' rh' rd'
    cases v with
    | non =>
      cases (show _ = _ from rd')
      exact ⟨rfl, p1 M' _ H' (e12.trans e') rh' (RelD.mono (G := gx X) (d := .ref S1.length) e' rd2)⟩
    | _ => exact p1.elim
  | exc c fs S2 =>
    rw [q] at p1
    exact fun M' H' C dx e' rh' q1 q2 => p1 M' H' C dx (e12.trans e') rh' q1 q2
  | bad => rw [q] at p1; exact p1.elim
theorem sx_make {g : Fn} (hC : X.mg c = some (.ref C)) (M : Mk X.K C f) (F : FnG X.prog X.w X.K X.mg X.base (L2.CX X.prog X.w) k f fd ps (spD (gk X.K X.mg) g)) (hr : RoomG (k + 1) X.A) (hg : Gl X c) (hb : Binds X.K fd ps []) (tk : Takes X W)
    (ha : SA X W (e :: es) ds) (hdb : (c == ("__debug__" : Str)) = false := by decide) (he : starEach (e :: es) X.env = (false, eval e X.env) :: starEach es X.env := by rfl) (hpl : (backTo pos (starEach es X.env)).any (·.1) = false := by rfl) :
    SE X W (.Call (.Name c p) (e :: es) [] pos) (eMake c g ds) := by
  refine ⟨fun pins s σ H Q I h => ?_⟩
  obtain ⟨M0, r, S, en, rh, p⟩ := h
  refine wpAny_Call_Name_kw (ld_glob I hg hC ?_ hdb)
  refine PySem.W.callWith_K (h₀ := X.base) I.ok.mod.kin M.kp (thn (ha.run pos pins s σ H _ I ⟨M0, r, S, en, rh, Post.bind (R := RA (gx X)) p⟩) fun us s1 ⟨vs, H1, I1, r1, q⟩ => ⟨I1.kIn, ?_⟩) he hpl
  obtain ⟨M1, xs, S1, e1, rh1, rd1, p1⟩ := q
  exact run_makeS (E := WE W) M F hr hb (passAt tk σ) I1 r1 fun x dx hx hd ne => make_goW hC rh1 rd1 p1 x dx hx hd ne
theorem sx_make0 {g : Fn} (hC : X.mg c = some (.ref C)) (M : Mk X.K C f) (F : FnG X.prog X.w X.K X.mg X.base (L2.CX X.prog X.w) k f fd ps (spD (gk X.K X.mg) g)) (hr : RoomG (k + 1) X.A) (hg : Gl X c) (hb : Binds X.K fd ps []) (tk : Takes X W)
    (hdb : (c == ("__debug__" : Str)) = false := by decide) : SE X W (.Call (.Name c p) [] [] pos) (eMake c g aNil) := by
  refine ⟨fun pins s σ H Q I h => ?_⟩
  obtain ⟨M0, r, S, en, rh, p⟩ := h
  refine wpAny_Call_Name_kw (ld_glob I hg hC ?_ hdb)
  exact PySem.W.callWith_K0 I.kIn M.kp (run_makeS (E := WE W) (us := []) (vs := []) M F hr hb (passAt tk σ) I .nil fun x dx hx hd ne => make_goW (M1 := M0) (S1 := S) (xs := []) (vs := []) hC rh rfl p x dx hx hd ne)
end
end Dn

end
section
set_option Elab.async false
set_option linter.all false
set_option maxRecDepth 100000
set_option maxHeartbeats 4000000
/-! A def that may raise; raise. -/
namespace Dn
open PySem PySem.Spec PyProof.Rows L2
variable [Tb]
/-- a def's wish -/
abbrev WD (E : XK) : WX := fun cls d _ H => E cls d H
section
variable {P : Program} {w : World} {K : PySem.W.Frag} {mg : Str → Option Value} {base : Heap}
theorem fn_okX {x qual : Str} {params : Arguments} {body : List Stmt} {scope : Scope} {f : Addr} {fd : FuncData} {N ps : List Str} {k np n : Nat} {d : DS} (F : FunD K x qual params body scope [] [] f fd) (S : FnScope N ps scope) (hp : ps.length = np) (hn : N.length = n)
    (hb : ∀ (cdv : Value) (A : Around) (outer : List Env) (s : Shared) (H : Hp) (E : XK) (M0 : Mp), RoomG k (A.deeper (envOfC qual scope s.heap.objs.size f cdv)) →
      Takes (cxOf (L2.CX P w) P w K mg base N qual scope f cdv A outer s H E) (WD E) →
      PassesOwn (model P w) (A.deeper (envOfC qual scope s.heap.objs.size f cdv)) (envOfC qual scope s.heap.objs.size f cdv) (cxOf (L2.CX P w) P w K mg base N qual scope f cdv A outer s H E).xe →
      SSs (cxOf (L2.CX P w) P w K mg base N qual scope f cdv A outer s H E) M0 H (WD E) body d) :
    FnG P w K mg base (L2.CX P w) (k + 1) f fd ps (spD (gk K mg) (fnD np n d)) := by
  have len : ∀ {vs : List V} {M : Mp} {ds : List D} {St : Store} {H : Hp} {Q : VK} {E : XK}, RelDs (gk K mg) M ds vs → Post (gk K mg) (RD (gk K mg)) (fun cls dx _ H => E cls dx H) M H [] (fnD np n d ds St) Q → ds.length = np := fun {vs M ds St H Q E} _ p => by
    unfold fnD at p
    split at p
    · assumption
    · exact p.elim
  refine fn_g F S (fun vs H Q E h => ?_) fun cdv A outer s H vs Q E hr h => ?_
  · obtain ⟨M, ds, St, rd, rh, p⟩ := h
    rw [hp, ← len rd p, rd.len]
  · obtain ⟨M, ds, St, rd, rh, p⟩ := h
    have hl := len rd p
    refine ⟨_, hb cdv A outer s H E M hr (takes_of rfl rfl rfl rfl) (passes_of rfl), M, ds.map Sl.val ++ List.replicate (n - np) Sl.un, St, ⟨⟨?_, fun i z q => ?_, fun i j xs ys a q1 => ?_⟩, rh, Ext.refl, fun i xs a q1 => ?_⟩, ?_⟩
    · have pre : ps.length ≤ N.length := by
        have := congrArg List.length S.pre
        rw [List.length_take] at this
        omega
      unfold L2.start
      simp only [List.length_append, List.length_map, List.length_replicate]
      rw [← rd.len]
      omega
    · unfold L2.start
      by_cases hi : i < ds.length
      · rw [List.getElem?_append_left (by simpa using hi), List.getElem?_map] at q
        obtain ⟨dx, hdx⟩ : ∃ dx, ds[i]? = some dx := ⟨ds[i], by simp [hi]⟩
        rw [hdx] at q
        cases q
        obtain ⟨v, hv, rv⟩ := rd.get hdx
        refine ⟨some v, ?_, v, rfl, rv⟩
        rw [List.getElem?_append_left (by simpa using (rd.len ▸ hi)), List.getElem?_map, hv]
        rfl
      · rw [List.getElem?_append_right (by simpa using hi)] at q
        rw [List.getElem?_replicate] at q
        split at q
        · rename_i hj
          cases q
          refine ⟨none, ?_, trivial⟩
          rw [List.getElem?_append_right (by simpa using (rd.len ▸ Nat.le_of_not_lt hi)), List.getElem?_replicate, if_pos (by
            simp only [List.length_map] at hj ⊢
            rw [← rd.len]
            omega)]
        · cases q
    · exfalso
      have := List.mem_of_getElem? q1
      simp at this
    · exfalso
      have := List.mem_of_getElem? q1
      simp at this
    · unfold fnD at p
      rw [if_pos hl] at p
      cases q : d (ds.map Sl.val ++ List.replicate (n - np) Sl.un) St with
      | next r S1 => rw [q] at p; exact fun M1 s1 H1 w1 l1 => p M1 .non H1 w1.ext w1.heap rfl
      | ret v r S1 => rw [q] at p; exact fun M1 y s1 H1 w1 l1 rv => p M1 y H1 w1.ext w1.heap rv
      | brk r S1 => rw [q] at p; exact p.elim
      | cont r S1 => rw [q] at p; exact p.elim
      | exc c fs r S1 => rw [q] at p; exact fun M1 s1 H1 C dx w1 l1 g x => p M1 H1 C dx w1.ext w1.heap g x
      | bad => rw [q] at p; exact p.elim
/-- the law's entry: nothing is there but the script and the tables -/
theorem law_spX {m : Fn} (h : ∀ ns : List Int, ns.length ≤ 63 → ∃ S, m [.lst (ns.map D.int)] [] = .ok (.bl true) S) (H : Hp) (a : Addr) (ns : List Int) (hl : ns.length ≤ 63) (hT : LamX.Tabs Tb.T H) (hS : SqL K H a (ns.map V.int)) :
    spD (gk K mg) m [.ref a] H (fun v _ => v = .bl true) fun _ _ _ => False := law_sp h H a ns hl hT hS
end
/-! ### raise -/
def sRaise (c : Str) : DS := fun r S => .exc c [] r S
/-- what an exception class without an own __init__ must have -/
structure Exc0 (K : PySem.W.Frag) (C : Addr) : Prop where
  q : PySem.W.excIn K C He.veBase "ValueError.__new__" = true
  kC : PySem.W.keepIn K (.ref C) = true
  r1 : PySem.W.subIn K (.ref C) (.type "BaseException") = some true
  r2 : PySem.W.typeIn K (.ref C) = some (.type "type")
omit [Tb] in
theorem exc0_of {K : PySem.W.Frag} {C : Addr} (h : PySem.W.excIn K C He.veBase "ValueError.__new__" = true ∧ PySem.W.keepIn K (.ref C) = true ∧ PySem.W.subIn K (.ref C) (.type "BaseException") = some true ∧ PySem.W.typeIn K (.ref C) = some (.type "type")) : Exc0 K C := ⟨h.1, h.2.1, h.2.2.1, h.2.2.2⟩
section
variable {X : Cx} {M0 : Mp} {H0 : Hp} {W : WX} {C : Addr} {x : Str} {p p2 pos : Pos}
theorem pmk_own0 {bmB : List Value} {B newId initId : String} (F : ExcBaseFacts B newId initId bmB) (q : PySem.W.excIn X.K C bmB newId = true) (gC : X.mg x = some (.ref C)) (kC : PySem.W.keepIn X.K (.ref C) = true) (r : Raises X (.ref C)) (hg : Gl X x)
    (hdb : (x == ("__debug__" : Str)) = false := by decide) : PMk X (.Call (.Name x p) [] [] pos) (fun _ H Q => Q (.ref C) none H) := by
  intro pins s σ H Q I h
  refine wpAny_Call_Name_kw (ld_glob I hg gC ?_ hdb)
  refine PySem.W.callWith_K0 I.kIn kC ?_
  show wpAny _ _ (call (.ref C) []) _ _ _
  obtain ⟨bm, N, nm, qn, bs, hdct, sn, sub, ab, col, dd, k0, k1, k2, k3, k5, mN, hC, hN, hni, T⟩ := exc_obj I.kIn q
  refine wpAny_call_exc_subT F T hC hN hni (fun h' e hm => ?_) (by show 0 ≤ sizeLine; omega)
  exact mk_of I hm r h (I.hok.gone hm.new)
theorem ss_raise (hc : X.calm = true) (tk : Takes X W) (T : Exc0 X.K C) (gC : X.mg x = some (.ref C)) (hg : Gl X x) (hdb : (x == ("__debug__" : Str)) = false := by decide) :
    SS X M0 H0 W (.Raise (some (.Call (.Name x p) [] [] p2)) none pos) (sRaise x) := by
  refine (ps_raise hc tk (pmk_own0 PySem.F.excBase_ValueError T.q gC T.kC (raises_own T.r1 T.r2) hg hdb)).dimp ?_
  rintro D s H ⟨M, r, S, w, pp⟩
  exact pp M s H C none w Le.refl gC (.inl ⟨rfl, rfl⟩)
end
end Dn

end
section
set_option Elab.async false
set_option linter.all false
set_option maxRecDepth 100000
set_option maxHeartbeats 4000000
/-! try with several clauses, named or not. -/
namespace L2
open PySem PySem.Spec PyProof.Rows
/-- the ends of a suite whose name goes -/
def endsN (oi : Option Nat) (D : Ends) : Ends := match oi with
  | none => D
  | some i => { nx := fun σ' H' => D.nx (σ'.set i none) H', rt := D.rt, bk := fun σ' H' => D.bk (σ'.set i none) H', ct := fun σ' H' => D.ct (σ'.set i none) H' }
def slotN (oi : Option Nat) (a : Addr) (σ : St) : St := match oi with
  | none => σ
  | some i => σ.set i (some (.ref a))
abbrev HdT := Value × Option Nat × (Addr → Value → Option Addr → TS)
def wTrys (K : PySem.W.Frag) (Wout : WX) (D : Ends) : List HdT → WX
  | [] => Wout
  | (c, oi, ts) :: r => fun cls d σ H => ∃ b, PySem.W.exmOne K cls c = some b ∧ (b = true → ∀ a, H a = none → ts a cls d (endsN oi D) (slotN oi a σ) H) ∧ (b = false → wTrys K Wout D r cls d σ H)
inductive HdsN (X : Cx) : List ExceptHandler → List HdT → Prop
  | nil : HdsN X [] []
  | cons {x : Str} {c : Value} {ts : Addr → Value → Option Addr → TS} {b₀ : Stmt} {suite : List Stmt} {np pos' : Pos} {hds : List ExceptHandler} {l : List HdT} (hc : Names X x c)
      (hsu : ∀ (a : Addr) (oe : Obj) (cls : Value) (d : Option Addr) (pn : List (Addr × Obj)), Zc cls d oe → (∃ vs, oe.data = .fields vs) → PSs (X.suite a ((a, oe) :: pn)) (b₀ :: suite) (ts a cls d)) (r : HdsN X hds l) :
      HdsN X (.ExceptHandler (some (.Name x np)) none (b₀ :: suite) pos' :: hds) ((c, none, ts) :: l)
  | named {x n : Str} {c : Value} {i : Nat} {ts : Addr → Value → Option Addr → TS} {b₀ : Stmt} {suite : List Stmt} {np pos' : Pos} {hds : List ExceptHandler} {l : List HdT} (hi : X.N[i]? = some n) (hln : X.env.kindOf n = some .local) (hc : Names X x c)
      (hsu : ∀ (a : Addr) (oe : Obj) (cls : Value) (d : Option Addr) (pn : List (Addr × Obj)), Zc cls d oe → (∃ vs, oe.data = .fields vs) → PSs (X.suite a ((a, oe) :: pn)) (b₀ :: suite) (ts a cls d)) (r : HdsN X hds l) :
      HdsN X (.ExceptHandler (some (.Name x np)) (some n) (b₀ :: suite) pos' :: hds) ((c, some i, ts) :: l)
section
variable {X : Cx} {body : List Stmt} {h₀ : ExceptHandler} {hds : List ExceptHandler} {l : List HdT} {pos : Pos} {tb : WX → TS} {Wout : WX}
theorem ps_trys (hs : X.stack = X.env :: X.outer) (hf : X.env.frame = some X.env.locals) (hN : X.N.Nodup) (tk : Takes X Wout)
    (hb : ∀ (W : WX) (pn : List (Addr × Obj)) (xe : Value → Shared → Prop), Takes (X.tr pn xe) W → PassesOwn (model X.prog X.w) X.A X.env xe → PSs (X.tr pn xe) body (tb W))
    (hh : HdsN X (h₀ :: hds) l) : PS X (.Try body (h₀ :: hds) [] [] pos) (fun D σ H => tb (wTrys X.K Wout D l) D σ H) := by
  refine ⟨fun pins s σ H D I h => ?_⟩
  have ok := I.ok
  have hfr : X.A.frames = some (X.env :: X.outer) := by rw [ok.frames, hs]
  refine wpAny_Try_except ?_
  refine wpAny_mono ((hb (wTrys X.K Wout D l) (X.pn ++ pins) (fun e s₁ => wpAny (model X.prog X.w) X.A (noteFrame e X.env) (fun _ s₂ => wpAny (model X.prog X.w) X.A (setFlight e none) (fun _ s₃ =>
    wpAny (model X.prog X.w) X.A (handleBy e X.env (h₀ :: hds)) (SP X pins D) X.xe s₃) X.xe s₂) X.xe s₁) (fun u s' xx => ?_) PassesOwn.looking).run [] s σ H D (I.toTry _) h) (fun f s1 hsp => ?_) (fun e s1 he => he)
  · -- the catch
    obtain ⟨a, B, sI, pins', σ', H', cls, d, rfl, J', nb, up, sky, na, os, ag, w⟩ := xx
    have J : Inv X pins σ' H' sI := J'.ofTry ok
    have sky' : Sky B (X.env :: X.outer) a (Zc cls d) X.env.locals s'.heap := by rw [← hs]; exact sky
    show wpAny (model X.prog X.w) X.A (noteFrame (.ref a) X.env) _ _ _
    refine Sky.land Zc.steady hfr hf sky' fun h3 fl3 up3 => ?_
    have J3 : Inv X pins σ' H' { s' with heap := h3 } := J.landed nb fl3.1 (up.trans up3) os ag
    obtain ⟨oe3, vs3, he3, hz3, hd3⟩ := fl3.there
    have notFr : ∀ {h : Heap} {o : Obj} {vs : Array Value}, h.FunFrames B (X.env :: X.outer) → h.get? a = some o → o.data = .fields vs → a ∉ frs (X.env :: X.outer) := fun {h o vs} ff e dd hm => by
      obtain ⟨_, o', e', hnf⟩ := ff.mem hm
      rw [e] at e'; cases e'
      exact hnf _ dd
    have nfr := notFr fl3.2.2.1 he3 hd3
    have nL : a ≠ X.env.locals := fun z => nfr (List.mem_filterMap.mpr ⟨X.env, List.mem_cons_self, by rw [hf, z]⟩)
    have nF : a ∉ X.fs := fun hm => by
      obtain ⟨e, he, q⟩ := List.mem_filterMap.mp hm
      exact nfr (List.mem_filterMap.mpr ⟨e, List.mem_cons_of_mem _ he, q⟩)
    have S3 := J3.suite he3 hd3 na nL nF
    have LT : PySem.W.Looks (model X.prog X.w) h3 (typeOf (.ref a)) cls := fun A Q E s k q => wpAny_typeOf_ref (k _ _ he3) (by rw [hz3.1]; exact q)
    have test : ∀ {x : Str} {c : Value} {np : Pos} {Q : Value → Shared → Prop} {E : Value → Shared → Prop}, Names X x c → Q c { s' with heap := h3 } → wpAny (model X.prog X.w) (X.A.mark (some (.ref a))) (eval (.Name x np) X.env) Q E { s' with heap := h3 } := fun {x c np Q E} hc q => by
      obtain ⟨hg, hdbg, hm | ⟨hm, hv, hnn⟩⟩ := hc
      · exact ld_glob (X := X.suite a ((a, oe3) :: (X.pn ++ pins))) S3 hg hm q hdbg
      · exact ld_blt (X := X.suite a ((a, oe3) :: (X.pn ++ pins))) S3 hg hm hv q hnn hdbg
    have go : ∀ {hds' : List ExceptHandler} {l' : List HdT}, HdsN X hds' l' → wTrys X.K Wout D l' cls d σ' H' →
        wpAny (model X.prog X.w) X.A (handleBy (.ref a) X.env hds') (SP X pins D) X.xe { s' with heap := h3 } := by
      intro hds' l' hk
      induction hk with
      | nil =>
        intro w
        refine wpAny_handleBy_nil ?_
        obtain ⟨k1, k2, k3, oe, vs, T, oT, ts', he, hz, hd, h1, hr⟩ := id fl3
        unfold PySem.passOn
        refine wpAny_bind (wpAny_field he hd h1 ?_)
        rw [if_neg (show ¬ ((Value.ref T == Value.none) = true) from by simp)]
        have fin : wpAny (model X.prog X.w) X.A (setFlight (.ref a) X.env.frame) (fun _ s4 => wpAny (model X.prog X.w) X.A (throw (.ref a) : Sem Flow) (SP X pins D) X.xe s4) X.xe { s' with heap := h3 } := by
          rw [hf]
          refine HandSPX.setFlight_upZ fl3 fun h4 hh4 up4 => wpAny_throw (tk _ _ ?_)
          exact ⟨a, B, sI, pins, σ', H', cls, d, rfl, J, nb, (up.trans up3).trans up4, .inr (.inr (by rw [hs]; exact hh4)), na, os, ag, w⟩
        first
          | exact wpAny_bind (wpAny_pure (wpAny_bind fin))
          | exact wpAny_bind fin
      | @cons x c ts b₀ suite np pos' hds2 l2 hc hsu r ih =>
        intro w
        obtain ⟨b, hb1, hyes, hno⟩ := w
        refine wpAny_handleBy_cons (codeAny_handlers_test ?_) (by intro q; cases q)
        have LM := PySem.W.exm_one (M := model X.prog X.w) (J3.kIn) LT hb1
        refine test hc (LM.here ?_)
        cases b with
        | true =>
          refine codeAny_handlers_suite ?_
          refine HandSPX.lands_againZ fl3 fun h4 fl4 up4 => ?_
          have J4 : Inv X pins σ' H' { s' with heap := h4 } := J.landed nb fl4.1 ((up.trans up3).trans up4) os ag
          obtain ⟨oe4, vs4, he4, hz4, hd4⟩ := fl4.there
          have S4 := J4.suite he4 hd4 na nL nF
          refine wpAny_mono ((hsu a oe4 cls d (X.pn ++ pins) hz4 ⟨_, hd4⟩).run [] _ _ H' _ S4 (hyes rfl a na)) (fun f s6 hsp => ?_) (fun _ _ z => False.elim z)
          cases f with
          | next =>
            obtain ⟨σ6, H6, S6, q6⟩ := hsp
            exact ⟨_, _, S6.unsuite ok, q6⟩
          | brk =>
            obtain ⟨σ6, H6, S6, q6⟩ := hsp
            exact ⟨_, _, S6.unsuite ok, q6⟩
          | cont =>
            obtain ⟨σ6, H6, S6, q6⟩ := hsp
            exact ⟨_, _, S6.unsuite ok, q6⟩
          | ret u =>
            obtain ⟨v6, σ6, H6, S6, r6, q6⟩ := hsp
            exact ⟨_, _, _, S6.unsuite ok, r6, q6⟩
        | false =>
          show wpAny _ X.A (handleBy (.ref a) X.env hds2) _ _ _
          exact ih (hno rfl)
      | @named x n c i ts b₀ suite np pos' hds2 l2 hi hln hc hsu r ih =>
        intro w
        obtain ⟨b, hb1, hyes, hno⟩ := w
        refine wpAny_handleBy_cons (codeAny_handlers_test ?_) (by intro q; cases q)
        have LM := PySem.W.exm_one (M := model X.prog X.w) (J3.kIn) LT hb1
        refine test hc (LM.here ?_)
        cases b with
        | true =>
          have hloc : Loc X.env.scope n := .inl hln
          refine codeAny_handlers_suite_as ?_
          refine HandSPX.lands_againZ fl3 fun h4 fl4 up4 => ?_
          have J4 : Inv X pins σ' H' { s' with heap := h4 } := J.landed nb fl4.1 ((up.trans up3).trans up4) os ag
          obtain ⟨oe4, vs4, he4, hz4, hd4⟩ := fl4.there
          have S4 := J4.suite he4 hd4 na nL nF
          refine store_ok (X := X.suite a ((a, oe4) :: (X.pn ++ pins))) (v := .ref a) S4 hN hi hloc rfl (fun s5 S5 => ?_) (.inr hln)
          refine wpAny_mono ((hsu a oe4 cls d (X.pn ++ pins) hz4 ⟨_, hd4⟩).run [] s5 _ H' _ S5 (hyes rfl a na)) (fun f s6 hsp => ?_) (fun _ _ z => False.elim z)
          have end_ : ∀ {σ6 : St} {H6 : Hp} {Q : Shared → Prop}, Inv (X.suite a ((a, oe4) :: (X.pn ++ pins))) [] σ6 H6 s6 → (∀ s7, Inv X pins (σ6.set i none) H6 s7 → Q s7) →
              wpAny (model X.prog X.w) X.A (do bindName X.env n .none; unbindBehindTheSuite X.env n pos') (fun _ s7 => Q s7) X.xe s6 := fun {σ6 H6 Q} S6 hq => gone_ok (S6.unsuite ok) hN hi hln hq
          cases f with
          | next =>
            obtain ⟨σ6, H6, S6, q6⟩ := hsp
            exact end_ S6 fun s7 J7 => ⟨_, _, J7, q6⟩
          | brk =>
            obtain ⟨σ6, H6, S6, q6⟩ := hsp
            exact end_ S6 fun s7 J7 => ⟨_, _, J7, q6⟩
          | cont =>
            obtain ⟨σ6, H6, S6, q6⟩ := hsp
            exact end_ S6 fun s7 J7 => ⟨_, _, J7, q6⟩
          | ret u =>
            obtain ⟨v6, σ6, H6, S6, r6, q6⟩ := hsp
            exact end_ S6 fun s7 J7 => ⟨_, _, _, J7, r6, q6⟩
        | false =>
          show wpAny _ X.A (handleBy (.ref a) X.env hds2) _ _ _
          exact ih (hno rfl)
    exact go hh w
  · cases f with
    | next =>
      obtain ⟨σ', H', J', q⟩ := hsp
      exact wpAny_execs_nil ⟨σ', H', J'.ofTry ok, q⟩
    | brk =>
      obtain ⟨σ', H', J', q⟩ := hsp
      exact ⟨σ', H', J'.ofTry ok, q⟩
    | cont =>
      obtain ⟨σ', H', J', q⟩ := hsp
      exact ⟨σ', H', J'.ofTry ok, q⟩
    | ret u =>
      obtain ⟨v, σ', H', J', r, q⟩ := hsp
      exact ⟨v, σ', H', J'.ofTry ok, r, q⟩
end
end L2

end
section
set_option Elab.async false
set_option linter.all false
set_option maxRecDepth 100000
set_option maxHeartbeats 4000000
/-! try: what it is worth, its rule; what is asked of a caught exception. -/
namespace Dn
open PySem PySem.Spec PyProof.Rows L2
variable [Tb]
/-- a name without an exception in it -/
def Sl.deexc : Sl → Sl
  | .exc _ _ => .un
  | x => x
def deexc (r : Rho) : Rho := r.map Sl.deexc
def clr (oi : Option Nat) (r : Rho) : Rho := match oi with
  | none => r
  | some i => r.set i .un
def unb (oi : Option Nat) : Sr → Sr
  | .next r S => .next (deexc (clr oi r)) S
  | .ret d r S => .ret d (deexc r) S
  | .brk r S => .brk (deexc (clr oi r)) S
  | .cont r S => .cont (deexc (clr oi r)) S
  | .exc _ _ _ _ => .bad
  | .bad => .bad
/-- an except clause: the classes that it catches, others that it doesn't, its name, its suite -/
abbrev HdD := List Str × List Str × Option Nat × DS
def held (oi : Option Nat) (c : Str) (fs : List (Str × D)) (r : Rho) : Rho := match oi with
  | none => deexc r
  | some i => (deexc r).set i (.exc c fs)
def handleD : List HdD → Str → List (Str × D) → Rho → Store → Sr
  | [], c, fs, r, S => .exc c fs r S
  | (yes, no, oi, d) :: hs, c, fs, r, S => if c ∈ yes then unb oi (d (held oi c fs r) S) else if c ∈ no then handleD hs c fs r S else .bad
def sTry (b : DS) (hs : List HdD) : DS := fun r S => match b (deexc r) S with
  | .next r S => .next (deexc r) S
  | .ret d r S => .ret d (deexc r) S
  | .brk r S => .brk (deexc r) S
  | .cont r S => .cont (deexc r) S
  | .exc c fs r S => handleD hs c fs (deexc r) S
  | .bad => .bad
/-- isinstance(name, C) of a caught exception -/
def eIsExc (i : Nat) (yes no : List Str) : DE := fun r S => match r[i]? with
  | some (.exc c _) => if c ∈ yes then .ok (.bl true) S else if c ∈ no then .ok (.bl false) S else .bad
  | _ => .bad
/-- name.f of a caught exception -/
def eExcF (i : Nat) (cs : List Str) (f : Str) : DE := fun r S => match r[i]? with
  | some (.exc c fs) => if c ∈ cs then Rs.ofO (fs.lookup f) S else .bad
  | _ => .bad
section
variable {G : Gx} {pn : List (Addr × Obj)} {M M0 : Mp} {H H0 : Hp} {r : Rho} {s : L2.St} {S : Store}
theorem deexc_get {i : Nat} {x : Sl} (h : (deexc r)[i]? = some x) : ∃ y, r[i]? = some y ∧ x = y.deexc := by
  unfold deexc at h
  rw [List.getElem?_map] at h
  cases q : r[i]? with
  | none => rw [q] at h; cases h
  | some y => rw [q] at h; cases h; exact ⟨y, rfl, rfl⟩
theorem deexc_own {i : Nat} {xs : List D} (h : (deexc r)[i]? = some (.own xs)) : r[i]? = some (.own xs) := by
  obtain ⟨y, h1, h2⟩ := deexc_get h
  cases y <;> cases h2
  exact h1
theorem envR_de (h : EnvR G M H r s) : EnvR (G.at_ pn G.lam) M H (deexc r) s := by
  refine ⟨by unfold deexc; rw [List.length_map]; exact h.len, fun i x q => ?_, fun i j xs ys a q1 q2 => h.apt i j xs ys a (deexc_own q1) (deexc_own q2)⟩
  obtain ⟨y, h1, rfl⟩ := deexc_get q
  obtain ⟨v, h2, h3⟩ := h.sl i y h1
  refine ⟨v, h2, ?_⟩
  cases y with
  | un => trivial
  | val d => obtain ⟨x, e1, e2⟩ := h3; exact ⟨x, e1, e2.g⟩
  | own ds => obtain ⟨a, vs, e1, e2, e3, e4, e5⟩ := h3; exact ⟨a, vs, e1, e2, e3.g, e4, e5⟩
  | ownd _ _ => exact h3
  | exc _ _ => trivial
  | lam => exact h3
theorem wst_de (h : Wst G M0 H0 M r S s H) : Wst (G.at_ pn G.lam) M0 H0 M (deexc r) S s H := ⟨envR_de h.env, h.heap.g, h.ext, fun i xs a q => h.own i xs a (deexc_own q)⟩
theorem wst_put {i : Nat} {x : Sl} {v : Option V} (hx : ∀ xs, x ≠ .own xs) (k : SlotR G M H x v) (h : Wst G M0 H0 M r S s H) : Wst G M0 H0 M (r.set i x) S (s.set i v) H := by
  have ow : ∀ {j : Nat} {xs : List D}, (r.set i x)[j]? = some (.own xs) → j ≠ i ∧ r[j]? = some (.own xs) := fun {j xs} q => by
    by_cases e : j = i
    · subst e
      by_cases hl : j < r.length
      · rw [List.getElem?_set_self hl] at q
        cases q
        exact absurd rfl (hx xs)
      · rw [List.getElem?_eq_none (by rw [List.length_set]; omega)] at q
        cases q
    · rw [List.getElem?_set_ne (Ne.symm e)] at q
      exact ⟨e, q⟩
  refine ⟨⟨by rw [List.length_set, List.length_set]; exact h.env.len, fun j y q => ?_, fun j k xs ys a q1 q2 q3 q4 => ?_⟩, h.heap, h.ext, fun j xs a q1 q2 => ?_⟩
  · by_cases e : j = i
    · subst e
      by_cases hl : j < r.length
      · rw [List.getElem?_set_self hl] at q
        cases q
        exact ⟨v, List.getElem?_set_self (by rw [← h.env.len]; exact hl), k⟩
      · rw [List.getElem?_eq_none (by rw [List.length_set]; omega)] at q
        cases q
    · rw [List.getElem?_set_ne (Ne.symm e)] at q ⊢
      exact h.env.sl j y q
  · obtain ⟨e1, o1⟩ := ow q1
    obtain ⟨e2, o2⟩ := ow q2
    rw [List.getElem?_set_ne (Ne.symm e1)] at q3
    rw [List.getElem?_set_ne (Ne.symm e2)] at q4
    exact h.env.apt j k xs ys a o1 o2 q3 q4
  · obtain ⟨e1, o1⟩ := ow q1
    rw [List.getElem?_set_ne (Ne.symm e1)] at q2
    exact h.own j xs a o1 q2
end
section
variable {X : Cx} {M0 : Mp} {H0 : Hp}
/-- a suite's ends -/
theorem unb_post {G : Gx} {pn : List (Addr × Obj)} {W : WX} {M1 : Mp} {oi : Option Nat} {x : Sr} {D : Ends} (h : PostS G M0 H0 W M1 (unb oi x) D) : PostS (G.at_ pn G.lam) M0 H0 WN M1 x (endsN oi D) := by
  have back : ∀ {M : Mp} {r : Rho} {S : Store} {s : L2.St} {H : Hp}, Wst (G.at_ pn G.lam) M0 H0 M r S s H → Wst G M0 H0 M (deexc r) S s H := fun w => wst_de (G := G.at_ pn G.lam) (pn := G.pn) w
  have clr_ : ∀ {M : Mp} {r : Rho} {S : Store} {i : Nat} {s : L2.St} {H : Hp}, Wst (G.at_ pn G.lam) M0 H0 M r S s H → Wst G M0 H0 M (deexc (r.set i .un)) S (s.set i none) H := fun w => back (wst_put (x := .un) (v := none) (fun _ z => by cases z) trivial w)
  cases x with
  | next r S =>
    cases oi with
    | none => exact fun M s H w l => h M s H (back w) l
    | some i => exact fun M s H w l => h M (s.set i none) H (clr_ w) l
  | ret d r S =>
    cases oi with
    | none => exact fun M v s H w l rd => h M v s H (back w) l (RelD.g (G := G.at_ pn G.lam) (pn := G.pn) (lm := G.lam) rd)
    | some i => exact fun M v s H w l rd => h M v s H (back w) l (RelD.g (G := G.at_ pn G.lam) (pn := G.pn) (lm := G.lam) rd)
  | brk r S =>
    cases oi with
    | none => exact fun M s H w l => h M s H (back w) l
    | some i => exact fun M s H w l => h M (s.set i none) H (clr_ w) l
  | cont r S =>
    cases oi with
    | none => exact fun M s H w l => h M s H (back w) l
    | some i => exact fun M s H w l => h M (s.set i none) H (clr_ w) l
  | exc c fs r S => exact h.elim
  | bad => exact h
/-- what the clauses are worth -/
inductive HdsD (X : Cx) (M0 : Mp) (H0 : Hp) : List ExceptHandler → List HdD → Prop
  | nil : HdsD X M0 H0 [] []
  | cons {x : Str} {cv : Value} {yes no : List Str} {b₀ : Stmt} {suite : List Stmt} {np pos' : Pos} {hds : List ExceptHandler} {l : List HdD} {ds : DS} (hc : Names X x cv)
      (hy : ∀ c ∈ yes, ∀ C, X.mg c = some (.ref C) → PySem.W.exmOne X.K (.ref C) cv = some true) (hn : ∀ c ∈ no, ∀ C, X.mg c = some (.ref C) → PySem.W.exmOne X.K (.ref C) cv = some false)
      (hsu : ∀ (a : Addr) (oe : Obj) (pn : List (Addr × Obj)), SSs (X.suite a ((a, oe) :: pn)) M0 H0 WN (b₀ :: suite) ds) (r : HdsD X M0 H0 hds l) :
      HdsD X M0 H0 (.ExceptHandler (some (.Name x np)) none (b₀ :: suite) pos' :: hds) ((yes, no, none, ds) :: l)
  | named {x n : Str} {cv : Value} {i : Nat} {yes no : List Str} {b₀ : Stmt} {suite : List Stmt} {np pos' : Pos} {hds : List ExceptHandler} {l : List HdD} {ds : DS} (hi : X.N[i]? = some n) (hln : X.env.kindOf n = some .local) (hc : Names X x cv)
      (hy : ∀ c ∈ yes, ∀ C, X.mg c = some (.ref C) → PySem.W.exmOne X.K (.ref C) cv = some true) (hn : ∀ c ∈ no, ∀ C, X.mg c = some (.ref C) → PySem.W.exmOne X.K (.ref C) cv = some false)
      (hsu : ∀ (a : Addr) (oe : Obj) (pn : List (Addr × Obj)), SSs (X.suite a ((a, oe) :: pn)) M0 H0 WN (b₀ :: suite) ds) (r : HdsD X M0 H0 hds l) :
      HdsD X M0 H0 (.ExceptHandler (some (.Name x np)) (some n) (b₀ :: suite) pos' :: hds) ((yes, no, some i, ds) :: l)
/-- a suite's reading, before its pin is known -/
def tSu (X : Cx) (M0 : Mp) (H0 : Hp) (ds : DS) (a : Addr) (cls : Value) (d : Option Addr) : TS := fun D σ H => ∀ (oe : Obj) (pn : List (Addr × Obj)), Zc cls d oe → (∃ us, oe.data = .fields us) → tS ((gx X).at_ ((a, oe) :: pn) Tb.lam) M0 H0 WN ds D σ H
theorem hds_of {hds : List ExceptHandler} {l : List HdD} (h : HdsD X M0 H0 hds l) : ∃ lt, HdsN X hds lt ∧ ∀ (c : Str) (fs : List (Str × D)) (r : Rho) (S : Store) (W : WX) (D : Ends) (M M' : Mp) (s : L2.St) (H : Hp) (C : Addr) (dx : Option Addr),
    PostS (gx X) M0 H0 W M (handleD l c fs r S) D → Wst (gx X) M0 H0 M' r S s H → Le M M' → X.mg c = some (.ref C) → ExcR (gx X) M' fs dx H → wTrys X.K W D lt (.ref C) dx s H := by
  induction h with
  | nil => exact ⟨[], .nil, fun c fs r S W D M M' s H C dx p w l g x => p M' s H C dx w l g x⟩
  | @cons x cv yes no b₀ suite np pos' hds l ds hc hy hn hsu r ih =>
    obtain ⟨lt, h1, h2⟩ := ih
    refine ⟨(cv, none, tSu X M0 H0 ds) :: lt, .cons hc (fun a oe cls d pn hz hf => (hsu a oe pn).dimp fun D s H q => q oe pn hz hf) h1, fun c fs r S W D M M' s H C dx p w l g x => ?_⟩
    unfold handleD at p
    split at p
    · rename_i hcy
      refine ⟨true, hy c hcy C g, fun _ a na oe pn hz hf => ⟨M', held none c fs r, S, wst_de w, PostS.le (unb_post p) l⟩, fun z => by cases z⟩
    · split at p
      · rename_i hcn
        exact ⟨false, hn c hcn C g, (fun z => by cases z), fun _ => h2 c fs r S W D M M' s H C dx p w l g x⟩
      · exact p.elim
  | @named x n cv i yes no b₀ suite np pos' hds l ds hi hln hc hy hn hsu r ih =>
    obtain ⟨lt, h1, h2⟩ := ih
    refine ⟨(cv, some i, tSu X M0 H0 ds) :: lt, .named hi hln hc (fun a oe cls d pn hz hf => (hsu a oe pn).dimp fun D s H q => q oe pn hz hf) h1, fun c fs r S W D M M' s H C dx p w l g x => ?_⟩
    unfold handleD at p
    split at p
    · rename_i hcy
      refine ⟨true, hy c hcy C g, fun _ a na oe pn hz hf => ⟨M', held (some i) c fs r, S, wst_put (x := .exc c fs) (v := some (.ref a)) (fun _ z => by cases z) ⟨a, oe, C, dx, rfl, List.mem_cons_self, hz, hf, g, x.g⟩ (wst_de w), PostS.le (unb_post p) l⟩, fun z => by cases z⟩
    · split at p
      · rename_i hcn
        exact ⟨false, hn c hcn C g, (fun z => by cases z), fun _ => h2 c fs r S W D M M' s H C dx p w l g x⟩
      · exact p.elim
theorem ss_try {W : WX} {body : List Stmt} {h₀ : ExceptHandler} {hds : List ExceptHandler} {l : List HdD} {pos : Pos} {db : DS} (hs : X.stack = X.env :: X.outer) (hf : X.env.frame = some X.env.locals) (hN : X.N.Nodup) (tk : Takes X W)
    (hb : ∀ (W : WX) (pn : List (Addr × Obj)) (xe : Value → Shared → Prop), Takes (X.tr pn xe) W → PassesOwn (model X.prog X.w) X.A X.env xe → SSs (X.tr pn xe) M0 H0 W body db) (hh : HdsD X M0 H0 (h₀ :: hds) l) :
    SS X M0 H0 W (.Try body (h₀ :: hds) [] [] pos) (sTry db l) := by
  obtain ⟨lt, h1, h2⟩ := hds_of hh
  refine (ps_trys (tb := fun W D s H => ∀ pn, tS ((gx X).at_ pn Tb.lam) M0 H0 W db D s H) hs hf hN tk (fun W pn xe tk po => (hb W pn xe tk po).dimp fun D s H q => q pn) h1).dimp ?_
  rintro D s H ⟨M, r, S, w, p⟩ pn
  refine ⟨M, deexc r, S, wst_de w, ?_⟩
  have back : ∀ {M : Mp} {r : Rho} {S : Store} {s : L2.St} {H : Hp}, Wst ((gx X).at_ pn Tb.lam) M0 H0 M r S s H → Wst (gx X) M0 H0 M (deexc r) S s H := fun w => wst_de (G := (gx X).at_ pn Tb.lam) (pn := X.pn) w
  unfold sTry at p
  cases q : db (deexc r) S with
  | next r1 S1 => rw [q] at p; exact fun M1 s1 H1 w1 l1 => p M1 s1 H1 (back w1) l1
  | ret d r1 S1 => rw [q] at p; exact fun M1 v s1 H1 w1 l1 rd => p M1 v s1 H1 (back w1) l1 (RelD.g (G := (gx X).at_ pn Tb.lam) (pn := X.pn) (lm := Tb.lam) rd)
  | brk r1 S1 => rw [q] at p; exact fun M1 s1 H1 w1 l1 => p M1 s1 H1 (back w1) l1
  | cont r1 S1 => rw [q] at p; exact fun M1 s1 H1 w1 l1 => p M1 s1 H1 (back w1) l1
  | exc c fs r1 S1 => rw [q] at p; exact fun M1 s1 H1 C dx w1 l1 g x => h2 c fs (deexc r1) S1 W D M M1 s1 H1 C dx p (back w1) l1 g (ExcR.g (G := (gx X).at_ pn Tb.lam) (pn := X.pn) (lm := Tb.lam) x)
  | bad => rw [q] at p; exact p.elim
end
end Dn

end
section
set_option Elab.async false
set_option linter.all false
set_option maxRecDepth 100000
set_option maxHeartbeats 4000000
/-! isinstance(e, C), e.f of a caught exception, with or without a dict. -/
namespace PySem.W
open PySem PySem.Spec PySem.Calls PyProof.Rows
section
variable {prog : Program} {w : World} {A : Around} {E : Value → Shared → Prop} {s : Shared} {K : Frag} {x D : Addr} {ox : Obj} {od : Option Obj}
theorem findObj_dataO {C : Addr} {name : Str} {a g : Value} (hc : (clsIn K C).isSome = true) (ha : findIn K (.ref C) name = some (some a)) (hg : specialIn K a "__get__" = some (some g)) (ht : takesIn K a = some true) : findObj K C od name = some (.bind g a) := by
  obtain ⟨cd, hc⟩ := Option.isSome_iff_exists.mp hc
  unfold findObj
  rw [hc, Option.bind_some, ha, Option.bind_some]
  simp [hg, ht]
theorem kin_classO {Q : Option Value → Shared → Prop} (hga : findIn K (.ref D) "__getattribute__" = some (some (.builtin "BaseException.__getattribute__"))) (hgt : findIn K (.ref D) "__getattr__" = some none) (hsub : subIn K (.ref D) (.type "BaseException") = some true)
    (hdct : hasDictIn K D = true) (ha : findIn K (.ref D) "__class__" = some (some (.builtin "object.__class__")))
    (hn : specialIn K (.builtin "object.__class__") "__get__" = some (some (.builtin "getset_descriptor.__get__"))) (htk : takesIn K (.builtin "object.__class__") = some true) (hm : mroIn K D (.type "object") = some true)
    (X : K.In s.heap) (I : InstAt s.heap x ox D od) (h : Q (some (.ref D)) { s with toks := s.toks + 1 }) : wpAny (model prog w) A (getAttr? (.ref x) "__class__") Q E s := by
  have hf : findObj K D od "__class__" = some (.bind (.builtin "getset_descriptor.__get__") (.builtin "object.__class__")) := findObj_dataO (by obtain ⟨cd, hc, _⟩ := any_some hdct; rw [hc]; rfl) ha hn htk
  obtain ⟨hp, g, d, t, os⟩ := s
  have L0 := I.type (M := model prog w)
  have L1 := looks_findIn (M := model prog w) X hga
  have L2 := looks_findIn (M := model prog w) X hgt
  have L3 := looks_find (M := model prog w) X I hf
  have sub : Looks (model prog w) hp (isInstance (.ref x) (.type "BaseException")) true := L0.andThen (looks_subIn X hsub)
  have hx0 : (false && onTheHeap (Value.builtin "BaseException.__getattribute__")) = false := rfl
  have hx2 : (Value.builtin "BaseException.__getattribute__" == Value.builtin "object.__getattribute__") = false := by decide +kernel
  have hx1 : (onTheHeap (Value.ref D) && Value.builtin "BaseException.__getattribute__" == Value.builtin "object.__getattribute__") = false := by rw [hx2]; rfl
  unfold getAttr? getAttrBy? getAttrBy
  refine wpAny_bind (wpAny_mkText (wpAny_bind (wpAny_attempt (wpAny_holding (wpAny_bind (L0.at (wpAny_bind (L1.at ?_))))))))
  show wpAny _ _ (if (onTheHeap (Value.ref D) && Value.builtin "BaseException.__getattribute__" == Value.builtin "object.__getattribute__") = true then _ else _) _ _ _
  rw [hx1, if_neg Bool.false_ne_true]
  unfold getAttrByItsOwn hookBefore
  refine wpAny_bind ?_
  rw [if_pos (show onTheHeap (Value.ref D) = true from rfl)]
  refine L2.at ?_
  refine wpAny_bind (wpAny_attempt (wpAny_holding ?_))
  unfold callGetattribute
  rw [hx0, if_neg Bool.false_ne_true]
  unfold boundAndCalled
  rw [PySem.F.excAttr_ValueError.ga.bind (.ref x)]
  refine wpAny_bind (wpAny_pure ?_)
  show wpAny _ _ (call (.builtin "BaseException.__getattribute__") [.ref x, .str "__class__" t]) _ _ _
  refine wpAny_call (codeAny_call_builtin PySem.F.excAttr_ValueError.ga.plain PySem.F.entry_bexc_ga ?_)
  refine @check_slot (model prog w) _ _ ⟨hp, g, d, t + 1, os⟩ "BaseException.__getattribute__" "BaseException" "__getattribute__" (.ref x) [.str "__class__" t] [] _ (by decide +kernel) (by decide +kernel) sub (PySem.F.args_bexc_ga (.ref x) (.str "__class__" t)) ?_
  unfold Builtin.«object.__getattribute__»
  refine wpAny_bind (wpAny_of_eq (a := ((Value.ref x : Value), [Value.str "__class__" t])) (by first | rfl | (simp only [slotArgs]; rfl)) ?_)
  refine wpAny_bind (wpAny_pure (wpAny_bind (L0.at (wpAny_bind (L3.at ?_)))))
  show wpAny _ _ (holding [Value.builtin "object.__class__"] (call (.builtin "getset_descriptor.__get__") [.builtin "object.__class__", .ref x, .ref D]) >>= ret) _ _ _
  refine wpAny_bind (wpAny_holding (wpAny_call (class_get (s := ⟨hp, g, d, t + 1, os⟩) (ox := ox) (od := od) X I hm ?_)))
  refine wpAny_pure ?_
  show wpAny _ _ (handedOut (.ref D)) _ _ _
  rw [handedOut_of (v := .ref D) rfl]
  first
    | exact wpAny_pure (wpAny_pure h)
    | exact wpAny_pure h
    | exact wpAny_pure (wpAny_bind (wpAny_pure (wpAny_pure h)))
theorem kitx_excO (hga : findIn K (.ref D) "__getattribute__" = some (some (.builtin "BaseException.__getattribute__"))) (hgt : findIn K (.ref D) "__getattr__" = some none) (hsub : subIn K (.ref D) (.type "BaseException") = some true) (hdct : hasDictIn K D = true) (ha : findIn K (.ref D) "__class__" = some (some (.builtin "object.__class__")))
    (hn : specialIn K (.builtin "object.__class__") "__get__" = some (some (.builtin "getset_descriptor.__get__"))) (htk : takesIn K (.builtin "object.__class__") = some true) (hm : mroIn K D (.type "object") = some true) :
    KitX K (.ref x) (.ref D) (fun h => InstAt h x ox D od) where
  ty := fun _ _ _ I => I.type
  it := fun _ _ X _ => by
    obtain ⟨cdD, hcD, _⟩ := any_some hdct
    unfold clsIn at hcD
    split at hcD
    · rename_i c' d' cd' sl' ho
      intro A' Q' E' s' k q
      unfold isType loadHead
      exact wpAny_bind (wpAny_loadPart (k _ _ (X _ _ ho)) (wpAny_pure q))
    · cases hcD
  ne := fun h tp dd its n sl X htp => by
    obtain ⟨cdD, hcD, _⟩ := any_some hdct
    refine Bool.eq_false_iff.mpr fun q => ?_
    have e : D = tp := Value.ref.inj (beq_iff_eq.mp q)
    subst e
    unfold clsIn at hcD
    split at hcD
    · rename_i c' d' cd' sl' ho
      have z := (X _ _ ho).symm.trans htp
      cases z
    · cases hcD
  ca := fun X I k => kin_classO hga hgt hsub hdct ha hn htk hm X I k
end
end PySem.W
namespace Dn
open PySem PySem.Spec PyProof.Rows L2
variable [Tb]
/-- isinstance(e, c), e a pinned exception -/
def rIsP (X : Cx) : List V → Hp → VK → Prop := fun xs H Q => ∃ (a D : Addr) (oe : Obj) (dx : Option Addr) (c : V) (cv : Value) (b : Bool), (a, oe) ∈ X.pn ∧ ExcC X.K D ∧ Zc (.ref D) dx oe ∧ (∃ us, oe.data = .fields us) ∧ (dx = none ∨ ∃ d fs, dx = some d ∧ H d = some (.xd fs)) ∧
  xs = [.ref a, c] ∧ (∀ u, RelV c u → u = cv) ∧ PySem.W.kitOne X.K (.ref D) cv = some b ∧ Q (.bl b) H
theorem call_isP {X : Cx} : CallR X (.builtin "isinstance") (rIsP X) := by
  intro pins s σ H xs us Q I r h
  obtain ⟨a, D, oe, dx, c, cv, b, hm, C, hz, hf, hdx, rfl, hcv, e, q⟩ := h
  cases r with
  | cons rx rr =>
    cases rr with
    | cons rt rr =>
      cases rr
      cases rx
      have ec := hcv _ rt
      subst ec
      obtain ⟨hget, _⟩ := I.pin (a, oe) (List.mem_append.mpr (.inl hm))
      obtain ⟨vs, hv⟩ := hf
      have J : ∃ od, PySem.W.InstAt s.heap a oe D od := by
        rcases hdx with rfl | ⟨d, fs, rfl, hd⟩
        · refine ⟨none, hget, hz.1, by unfold PySem.W.notCls; rw [hv] <;> rfl, by rw [hz.2]; trivial⟩
        · have hx : ObjOk X.prog X.w H s.heap d (.xd fs) := I.hok d _ hd
          obtain ⟨mA, hns, hr⟩ := hx
          obtain ⟨od, ho, hl⟩ := lookIn_ns hns
          exact ⟨some od, hget, hz.1, by unfold PySem.W.notCls; rw [hv] <;> rfl, by rw [hz.2]; exact ho⟩
      obtain ⟨od, J⟩ := J
      exact PySem.W.kia_one (PySem.W.kitx_excO C.hg C.hk C.hs C.hd C.ha C.hn C.ht C.hm) I.kIn J e (fun z => nomatch z) fun tk => ⟨.bl b, H, I.kept (t' := tk) fun _ _ z => z, rfl, q⟩
section
variable {X : Cx} {W : WX} {e : Expr} {pos : Pos}
theorem se_isExc {i : Nat} {yes no : List Str} {c : V} {cv : Value} (hcv : ∀ u, RelV c u → u = cv) (hx : ∀ x, x ∈ yes ∨ x ∈ no → ∀ C, X.mg x = some (.ref C) → ExcC X.K C)
    (hy : ∀ x ∈ yes, ∀ C, X.mg x = some (.ref C) → PySem.W.kitOne X.K (.ref C) cv = some true) (hn : ∀ x ∈ no, ∀ C, X.mg x = some (.ref C) → PySem.W.kitOne X.K (.ref C) cv = some false)
    (hc : PE X e (tCB (rIsP X) (tCons (tVar i) (tCons (tC c) tNil)))) : SE X W e (eIsExc i yes no) := by
  refine hc.dimp ?_
  rintro s H Q ⟨M, r, S, en, rh, p⟩
  unfold eIsExc at p
  cases q : r[i]? with
  | none => rw [q] at p; exact p.elim
  | some z =>
    rw [q] at p
    obtain ⟨v, h1, h2⟩ := en.sl i z q
    cases z with
    | exc k fs =>
      obtain ⟨a, oe, C, dx, rfl, hm, hz, hf, hg, hxr⟩ := h2
      dsimp only at p
      have hd : dx = none ∨ ∃ d fs, dx = some d ∧ H d = some (.xd fs) := by
        rcases hxr with ⟨_, z⟩ | ⟨d, vfs, z1, z2, _⟩
        · exact .inl z
        · exact .inr ⟨d, vfs, z1, z2⟩
      refine ⟨.ref a, h1, ?_⟩
      split at p
      · rename_i hk
        exact ⟨a, C, oe, dx, c, cv, true, hm, hx k (.inl hk) C hg, hz, hf, hd, rfl, hcv, hy k hk C hg, p M _ H Ext.refl rh rfl⟩
      · split at p
        · rename_i hk
          exact ⟨a, C, oe, dx, c, cv, false, hm, hx k (.inr hk) C hg, hz, hf, hd, rfl, hcv, hn k hk C hg, p M _ H Ext.refl rh rfl⟩
        · exact p.elim
    | un => exact p.elim
    | own _ => exact p.elim
    | ownd _ _ => exact p.elim
    | val _ => exact p.elim
    | lam => exact p.elim
/-- e.f -/
theorem se_excF {i : Nat} {x : Str} {p2 : Pos} {cs : List Str} {f : Str} (hN : X.N[i]? = some x) (hv : Vis X.env.scope x) (hxf : ∀ c ∈ cs, ∀ C, X.mg c = some (.ref C) → XfC X.K C ∧ PySem.W.findIn X.K (.ref C) f = some none)
    (hd : (x == ("__debug__" : Str)) = false := by decide) (hcd : (x == ("__classdict__" : Str)) = false := by decide) (hb : attributeBase (.Name x p2) f X.env (eval (.Name x p2) X.env) = eval (.Name x p2) X.env := by rfl) : SE X W (.Attribute (.Name x p2) f pos) (eExcF i cs f) := by
  refine ⟨fun pins s σ H Q I h => ?_⟩
  obtain ⟨M, r, S, en, rh, p⟩ := h
  unfold eExcF at p
  cases q : r[i]? with
  | none => rw [q] at p; exact p.elim
  | some z =>
    rw [q] at p
    obtain ⟨v, h1, h2⟩ := en.sl i z q
    cases z with
    | exc k fs =>
      obtain ⟨a, oe, C, dx, rfl, hm, hz, hf, hg, hxr⟩ := h2
      dsimp only at p
      split at p
      · rename_i hk
        obtain ⟨T, hno⟩ := hxf k hk C hg
        cases q2 : fs.lookup f with
        | none => rw [q2] at p; exact p.elim
        | some d =>
          rw [q2] at p
          rcases hxr with ⟨z, _⟩ | ⟨dd, vfs, z1, z2, z3, _⟩
          · rw [z] at q2; cases q2
          · obtain ⟨y, hl, rd⟩ := z3.lookup q2
            subst z1
            refine attr_of hb (thn ((pe_var (pos := p2) (i := i) hN hv hd hcd).run pins s σ H (fun v H1 => v = .ref a ∧ H1 = H) I ⟨.ref a, h1, rfl, rfl⟩) fun u s1 hh => ?_)
            obtain ⟨x1, H1, I1, rx, ex, eH⟩ := hh
            subst ex
            rw [eH] at I1
            obtain rfl : u = Value.ref a := rx
            obtain ⟨ha, _⟩ := I1.pin (a, oe) (List.mem_append_left _ hm)
            obtain ⟨vs, hd'⟩ := hf
            have hx : ObjOk X.prog X.w H s1.heap dd (.xd vfs) := I1.hok dd _ z2
            obtain ⟨mA, hns, hr⟩ := hx
            obtain ⟨od, ho, hll⟩ := lookIn_ns hns
            obtain ⟨u, hu, ru⟩ := RelO.some_of (v := y) (o := mA f) (by rw [← hl]; exact hr f)
            have J : PySem.W.InstAt s1.heap a oe C (some od) := ⟨ha, hz.1, by unfold PySem.W.notCls; rw [hd'] <;> rfl, by rw [hz.2]; exact ho⟩
            exact HandSPX.exc_get I1.kIn J T.ga T.gg T.exC (PySem.W.findObj_own T.hdC hno rfl (by rw [hll, hu])) (handed_of ru) ⟨y, H, I1.tok _, ru, p M y H Ext.refl rh rd⟩
      · exact p.elim
    | un => exact p.elim
    | own _ => exact p.elim
    | ownd _ _ => exact p.elim
    | val _ => exact p.elim
    | lam => exact p.elim
end
end Dn

end
section
set_option Elab.async false
set_option linter.all false
set_option maxRecDepth 100000
set_option maxHeartbeats 4000000
/-! Lambdas without parameters, handed to a def that calls them. -/
namespace Dn
open PySem PySem.Spec PyProof.Rows L2 LamX
/-- the lambda that a name holds, called -/
def eAct (i : Nat) (act : Store → Rs D) : DE := fun r S => match r[i]? with
  | some .lam => act S
  | _ => .bad
/-- what a def of n names that gets a lambda is worth -/
def hoD (n : Nat) (d : (Store → Rs D) → DS) (act : Store → Rs D) : Store → Rs D := fun S => match d act (.lam :: List.replicate (n - 1) .un) S with
  | .next _ S => .ok .non S
  | .ret v _ S => .ok v S
  | .exc _ _ _ _ => .bad
  | _ => .bad
/-- x(lambda: b) -/
def eHo (m : (Store → Rs D) → Store → Rs D) (b : DE) : DE := fun r S => m (fun S' => b (deexc r) S') S
section
variable {X : Cx} {pins : List (Addr × Obj)} {σ : L2.St} {H HZ : Hp} {s s1 : Shared}
/-- the lambda is made: its code object is new, or found in the table -/
theorem lam_make3 {T : List (Addr × Str)} {c P : Addr} {params : Arguments} {body : Expr} {scope : Scope} {pos : Pos} {E : Value → Shared → Prop} {Q : Value → Shared → Prop} (I : Inv X pins σ H s) (TB : TabB X.base X.mg c P) (hcode : X.env.code = .ref c)
    (hm : (P, X.env.qual ++ "<lambda>") ∈ T) (hu : ∀ p ∈ T, p.1 = P → p.2 = X.env.qual ++ "<lambda>") (hT : Tabs T H) (hdef : defaultsOf params X.env = ([], [])) (hfree : ∀ y ∈ scope.names, y.2 = .free → ∃ c, X.env.cells.lookup y.1 = some c)
    (h : ∀ (f c' : Addr) (pm ctv : Value) (H1 : Hp) (s' : Shared), Inv X pins σ H1 s' → ExtN H H1 → (∀ b o, H b = some o → ∃ o', H1 b = some o') → Tabs T H1 →
      s'.heap.get? f = some (PySem.W.kla_obj "<lambda>" (X.env.qual ++ "<lambda>") params body scope (cloFrom X.env.cells scope.names []) pm c' ctv) → H1 f = none → f ∉ frs X.stack → H1 c' = some (CodeO c' (X.env.qual ++ "<lambda>")) → Q (.ref f) s') :
    wpAny (model X.prog X.w) X.A (eval (.Lambda params body scope pos) X.env) Q E s := by
  obtain ⟨ps, hP, ht, ha⟩ := hT _ hm
  refine PySem.W.kla_eval hdef ?_
  have bP : s.heap.BuiltinsAt X.mg P := TB.bm.keeps I.bk
  have hP' : s.heap.get? P = some { cls := .none, data := .fields ps } := I.hok P _ hP
  have nofr : ∀ f, s.heap.objs.size ≤ f → f ∉ frs X.stack := fun f hf z => by
    rcases List.mem_cons.mp (I.stkSub _ z) with e | e
    · have h1 := I.lt
      rw [← e] at h1
      exact Nat.lt_irrefl _ (Nat.lt_of_lt_of_le h1 hf)
    · exact I.nofs hf e
  cases hc : codeAmong pos ps.toList with
  | none =>
    refine PySem.W.kla_makeFunction (mg := X.mg) (c := c) (P := P) (ps := ps) (closure_ok hfree) I.ok.glob (I.mod.glob.keeps I.bk) hcode (TB.code.keeps I.bk) hP' ht hc TB.gP bP fun c' ctv h' tk hx hge hlt hrec htb => ?_
    obtain ⟨c2, oc, vs, t, e2, hoc, hd, hv⟩ := hrec
    cases e2
    have hsz : s.heap.objs.size ≤ h'.objs.size := Nat.le_trans hge (Nat.le_of_lt hlt)
    have nC : H c' = none := I.hok.fresh hge
    have I1 := inv_table (t' := tk) (more := #[rawInt pos.line, rawInt pos.col, .ref c']) (h' := h'.push (PySem.W.kla_obj "<lambda>" (X.env.qual ++ "<lambda>") params body scope (cloFrom X.env.cells scope.names []) ((X.mg "__name__").getD .none) c' ctv)) I hP
      (fun b o hb e => Heap.get?_push_of_some _ (hx b o hb e)) (Heap.get?_push_of_some _ htb) hge ⟨oc, vs, t, Heap.get?_push_of_some _ hoc, hd, hv⟩
    have hE : ExtN H (upd (upd H P (.tbl (ps ++ #[rawInt pos.line, rawInt pos.col, .ref c']))) c' (CodeO c' (X.env.qual ++ "<lambda>"))) := fun b o e n => by
      rw [upd_ne (ne_of_none e nC), upd_ne (fun z => n ps (Option.some.inj (e.symm.trans (by rw [z]; exact hP))))]
      exact e
    have hE2 : ∀ b o, H b = some o → ∃ o', (upd (upd H P (.tbl (ps ++ #[rawInt pos.line, rawInt pos.col, .ref c']))) c' (CodeO c' (X.env.qual ++ "<lambda>"))) b = some o' := fun b o e => by
      by_cases h1 : b = c'
      · exact ⟨_, by rw [h1, upd_same]⟩
      · by_cases h2 : b = P
        · exact ⟨_, by rw [upd_ne h1, h2, upd_same]⟩
        · exact ⟨o, by rw [upd_ne h1, upd_ne h2]; exact e⟩
    have eL : (ps ++ #[rawInt pos.line, rawInt pos.col, .ref c']).toList = ps.toList ++ [rawInt pos.line, rawInt pos.col, .ref c'] := by simp
    refine h h'.objs.size c' ((X.mg "__name__").getD .none) ctv _ _ I1 hE hE2 (fun p hp => ?_) (Heap.get?_push_size _ rfl) ?_ (nofr _ hsz) upd_same
    · by_cases hb : p.1 = P
      · rw [hu p hp hb, hb]
        refine ⟨_, by rw [upd_ne (ne_of_none hP nC), upd_same], by rw [eL]; exact PySem.TriplesOk_snoc _ _ _ _ ht, fun p' cv hcv => ?_⟩
        rw [eL] at hcv
        rcases among_app _ ht hcv with z | z
        · obtain ⟨c0, e1, e2⟩ := ha p' cv z
          exact ⟨c0, e1, hE _ _ e2 codeO_ne⟩
        · exact ⟨c', z, upd_same⟩
      · obtain ⟨ps', a1, a2, a3⟩ := hT p hp
        refine ⟨ps', by rw [upd_ne (ne_of_none a1 nC), upd_ne hb]; exact a1, a2, fun p' cv hcv => ?_⟩
        obtain ⟨c0, e1, e2⟩ := a3 p' cv hcv
        exact ⟨c0, e1, hE _ _ e2 codeO_ne⟩
    · have n1 : h'.objs.size ≠ c' := Nat.ne_of_gt hlt
      have n2 : h'.objs.size ≠ P := Nat.ne_of_gt (Nat.lt_of_lt_of_le (Heap.lt_size hP') hsz)
      rw [upd_ne n1, upd_ne n2]
      exact I.hok.fresh hsz
  | some cv =>
    obtain ⟨c', e, hco⟩ := ha pos cv hc
    subst e
    refine PySem.W.kla_makeFunctionHit (mg := X.mg) (c := c) (P := P) (ps := ps) (closure_ok hfree) I.ok.glob (I.mod.glob.keeps I.bk) hcode (TB.code.keeps I.bk) hP' ht hc bP fun ctv h' tk hx hsz => ?_
    have I1 : Inv X pins σ H { s with heap := h'.push (PySem.W.kla_obj "<lambda>" (X.env.qual ++ "<lambda>") params body scope (cloFrom X.env.cells scope.names []) ((X.mg "__name__").getD .none) c' ctv), toks := tk } := I.kept fun b o e => Heap.get?_push_of_some _ (hx b o e)
    exact h h'.objs.size c' ((X.mg "__name__").getD .none) ctv H _ I1 (ExtN.refl H) (fun _ o e => ⟨o, e⟩) hT (Heap.get?_push_size _ rfl) (I.hok.fresh hsz) (nofr _ hsz) hco
/-- the lambda called, in the def that got it; the wish may hang on the state -/
theorem pe_actS {CXg : CXT} {Eg : XK} {Ng : List Str} {qg : Str} {sg : Scope} {g f c' : Addr} {cdg pm ctv : Value} {params : Arguments} {body : Expr} {scope : Scope} {k i : Nat} {a : Str} {pn : List (Addr × Obj)} {xe : Value → Shared → Prop} {W : WX} {tb : XK → TE} {p1 p2 : Pos}
    (I : Inv X pins σ H s) (L : LamS X.env.scope scope) (hf : s.heap.get? f = some (PySem.W.kla_obj "<lambda>" (X.env.qual ++ "<lambda>") params body scope (cloFrom X.env.cells scope.names []) pm c' ctv)) (hfn : H f = none) (hfr : f ∉ frs X.stack)
    (hbind : bindArgs (PySem.W.kla_fn "<lambda>" (X.env.qual ++ "<lambda>") params body scope (cloFrom X.env.cells scope.names []) pm (.ref c') ctv) ⟨[], []⟩ = pure [])
    (tk : Takes ((cxOf CXg X.prog X.w X.K X.mg X.base Ng qg sg g cdg X.A X.stack s H Eg).tr pn xe) W) (hr : RoomG (k + 1) (X.A.deeper (envOfC qg sg s.heap.objs.size g cdg)))
    (hbody : ∀ (A : Around) (outer : List Env) (s : Shared) (H : Hp) (E : XK), RoomG k (A.deeper (lamEnv X scope s.heap.objs.size f c')) → PE (lamCx X A outer s H E scope f c') body (tb E))
    (hN : Ng[i]? = some a) (hv : Vis sg a) (hd : (a == ("__debug__" : Str)) = false) (hcd : (a == ("__classdict__" : Str)) = false) :
    PE ((cxOf CXg X.prog X.w X.K X.mg X.base Ng qg sg g cdg X.A X.stack s H Eg).tr pn xe) (.Call (.Name a p1) [] [] p2)
      (fun σZ HZ Q => σZ[i]? = some (some (.ref f)) ∧ HZ c' = some (CodeO c' (X.env.qual ++ "<lambda>")) ∧ tb (WE W σZ) σ HZ Q) := by
  refine ⟨fun pinsZ sZ σZ HZ Q IZ h => ?_⟩
  obtain ⟨hs, hc, ht⟩ := h
  refine wpAny_Call_Name_kw (thn ((pe_var (pos := p1) (i := i) hN hv hd hcd).run pinsZ sZ σZ HZ (fun v H1 => v = .ref f ∧ H1 = HZ) IZ ⟨.ref f, hs, rfl, rfl⟩) fun u s1 ⟨v, H1, I1, r1, q1⟩ => ?_)
  obtain ⟨ev, eH⟩ := q1
  subst ev
  rw [eH] at I1
  obtain rfl : u = Value.ref f := r1
  have of1 : s1.heap.get? f = some (PySem.W.kla_obj "<lambda>" (X.env.qual ++ "<lambda>") params body scope (cloFrom X.env.cells scope.names []) pm c' ctv) := I1.base.keep f _ hf hfn hfr (fun z => nomatch (show f ∈ ([] : List Addr) from z))
  refine PySem.W.callWith_F0 ⟨_, _, _, _, of1⟩ ?_
  have un : Un (frs X.stack) [] H HZ s.heap s1.heap := I1.base
  obtain ⟨⟨oc, vs, t, hoc, hdc, hvc⟩, _, _⟩ := I1.hok c' _ hc
  have rc : codeAny (model X.prog X.w) (X.A.deeper (envOfC qg sg s.heap.objs.size g cdg)) (.call (.ref f) ⟨[], []⟩) (CR (L2.CX X.prog X.w) (envOfC qg sg s.heap.objs.size g cdg :: X.stack) X.prog X.w HZ s1 Q (WE W σZ)) s1 := by
    refine PySem.W.kla_callFunE hr.r.depth of1 rfl L.co L.gen rfl ⟨c', oc, vs, t, rfl, hoc, hdc, hvc⟩ ?_
    rw [hbind]
    refine wpAny_pure (wpAny_newFunctionEnv (fun y hy => (L.own y hy).2) (fun y hy => absurd hy (by simp)) (fun h₁ hns hsb => ⟨I1.nolimit.fresh _ hsb, ?_⟩) L.kind)
    show codeAny _ _ (.expr body (lamEnv X scope s1.heap.objs.size f c')) _ _
    have kp : ∀ b o, s1.heap.get? b = some o → h₁.get? b = some o := fun b o e => hsb.extBut b o (Nat.ne_of_lt (Heap.lt_size e)) (Heap.get?_push_of_some _ e)
    have J : Inv (lamCx X (X.A.deeper (envOfC qg sg s.heap.objs.size g cdg)) (envOfC qg sg s.heap.objs.size g cdg :: X.stack) s1 HZ (WE W σZ) scope f c') [] σ HZ { s1 with heap := h₁, toks := s1.toks + ([] : List (Str × Value)).length } :=
      lam_start2 I L I1.env0 hr.r.hd un hns kp
    refine PySem.W.kla_codeExpr (wpAny_mono ((hbody _ _ s1 HZ (WE W σZ) (hr.deeper _)).run [] _ _ HZ Q J ht) (fun v s' hq => ?_) fun e s' hq => hq)
    obtain ⟨w', H', J', rv, q⟩ := hq
    exact ⟨w', H', J'.os, J'.bare, J'.base, J'.hok, rv, q⟩
  have hx := passAt tk σZ
  refine wpAny_call (codeAny_mono rc fun r s' hq => ?_)
  cases r with
  | error e => exact hx pinsZ HZ s1 e s' I1 hq
  | ok fl =>
    cases fl with
    | ret u => exact I1.after hq
    | next => exact False.elim hq
    | brk => exact False.elim hq
    | cont => exact False.elim hq
/-- the def that calls what it got -/
def GivesW (X : Cx) (Ng : List Str) (x : Str) (sg : Scope) (g : Addr) (cdg : Value) (bg : List Stmt) (a : Str) (q : Str) (TT : (XK → Hp → VK → Prop) → Hp → VK → Prop) : Prop :=
  ∀ (f c' : Addr) (s : Shared) (H : Hp) (Q : VK) (tl : XK → Hp → VK → Prop), RoomG 1 (X.A.deeper (envOfC x sg s.heap.objs.size g cdg)) →
    (∀ (W : WX) (pn : List (Addr × Obj)) (xe : Value → Shared → Prop) (p1 p2 : Pos), Takes ((cxOf C8.CX0 X.prog X.w X.K X.mg X.base Ng x sg g cdg X.A X.stack s H C8.E0).tr pn xe) W →
      PE ((cxOf C8.CX0 X.prog X.w X.K X.mg X.base Ng x sg g cdg X.A X.stack s H C8.E0).tr pn xe) (.Call (.Name a p1) [] [] p2) (fun σZ HZ Q => σZ[0]? = some (some (.ref f)) ∧ HZ c' = some (CodeO c' q) ∧ tl (WE W σZ) HZ Q)) →
    H c' = some (CodeO c' q) → TT tl H Q →
    ∃ t, PSs (cxOf C8.CX0 X.prog X.w X.K X.mg X.base Ng x sg g cdg X.A X.stack s H C8.E0).nox bg t ∧ t { nx := fun _ H' => Q .non H', rt := Q } (L2.start Ng [.ref f]) H
def tLamW (T : List (Addr × Str)) (TT : (XK → Hp → VK → Prop) → Hp → VK → Prop) (t : XK → TE) : TE := fun σ H Q => Tabs T H ∧ ∀ H1, ExtN H H1 → (∀ b o, H b = some o → ∃ o', H1 b = some o') → Tabs T H1 → TT (fun E H' Q' => t E σ H' Q') H1 Q
theorem pe_lamW {T : List (Addr × Str)} {TT : (XK → Hp → VK → Prop) → Hp → VK → Prop} {x a : Str} {g c P : Addr} {k : Nat} {pg : Arguments} {bg : List Stmt} {sg : Scope} {dV kV doc pm cdv ct oc : Value} {an od : Option Addr} {osl : Array (Option Value)} {Ng : List Str}
    {params : Arguments} {body : Expr} {scope : Scope} {t : XK → TE} {p lpos pos : Pos} (hg : Gl X x) (hm : X.mg x = some (.ref g)) (hk : PySem.W.keepIn X.K (.ref g) = true)
    (lk : X.K.lookup g = some ⟨oc, od, .func (PySem.W.fnOf x x pg bg sg dV kV doc pm an cdv ct), osl⟩) (hcg : PySem.W.codeIn X.K cdv x = true) (hb : L2.Binds X.K (PySem.W.fnOf x x pg bg sg dV kV doc pm an cdv ct) [a] []) (Sg : FnScope Ng [a] sg) (hNg : Ng[0]? = some a) (hva : Vis sg a)
    (hG : GivesW X Ng x sg g cdv bg a (X.env.qual ++ "<lambda>") TT)
    (TB : TabB X.base X.mg c P) (hcode : X.env.code = .ref c) (hmT : (P, X.env.qual ++ "<lambda>") ∈ T) (hu : ∀ p ∈ T, p.1 = P → p.2 = X.env.qual ++ "<lambda>") (hr : RoomG (k + 2) X.A) (L : LamS X.env.scope scope) (hdef : defaultsOf params X.env = ([], []))
    (hbind : ∀ (q : Str) (cl : List (Str × Addr)) (pm cv ctv : Value), bindArgs (PySem.W.kla_fn "<lambda>" q params body scope cl pm cv ctv) ⟨[], []⟩ = pure [])
    (hbody : ∀ (A : Around) (outer : List Env) (s : Shared) (H : Hp) (E : XK) (f c' : Addr), RoomG k (A.deeper (lamEnv X scope s.heap.objs.size f c')) → PE (lamCx X A outer s H E scope f c') body (t E))
    (hdb : (x == ("__debug__" : Str)) = false := by decide) (hd : (a == ("__debug__" : Str)) = false := by decide) (hcd : (a == ("__classdict__" : Str)) = false := by decide) :
    PE X (.Call (.Name x p) [.Lambda params body scope lpos] [] pos) (tLamW T TT t) := by
  refine ⟨fun pins s σ H Q I h => ?_⟩
  obtain ⟨hT, h⟩ := h
  refine wpAny_Call_Name_kw (ld_glob I hg hm ?_ hdb)
  refine PySem.W.callWith_K (h₀ := X.base) I.ok.mod.kin hk ?_ (by rfl) (by rfl)
  show wpAny _ _ (spliced ((false, eval (.Lambda params body scope lpos) X.env) :: backTo pos (starEach [] X.env))) _ _ s
  refine Calls.spliced_cons (lam_make3 I TB hcode hmT hu hT hdef (L.has I.ok) fun f c' pm' ctv H1 s' I1 eN eN2 T1 hf hfn hfr hco => ?_)
  refine Calls.spliced_nil ⟨I1.kIn, ?_⟩
  have rc : codeAny (model X.prog X.w) X.A (.call (.ref g) ⟨[.ref f], []⟩) (CR C8.CX0 X.stack X.prog X.w H1 s' Q C8.E0) s' := by
    refine run_ofS (N := Ng) (ps := [a]) (us := [.ref f]) (vs := [.ref f]) lk hcg Sg hr.r I1.env0 (hb s' [.ref f] I1.kIn rfl) (.cons rfl .nil) rfl fun hr0 => ?_
    have hr' := RoomG.mk hr0 hr.g
    obtain ⟨t', ht', hq'⟩ := hG f c' s' H1 Q (fun E H' Q' => t E σ H' Q') (hr'.mono (by omega)) (fun W pn xe p1 p2 tk => pe_actS (i := 0) I1 L hf hfn hfr (hbind _ _ _ _ _) tk hr' (fun A outer s H E hr2 => hbody A outer s H E f c' hr2) hNg hva hd hcd) hco (h H1 eN eN2 T1)
    exact ⟨t', ht'.nox, hq'⟩
  refine wpAny_call (codeAny_mono rc fun r s2 hq => ?_)
  cases r with
  | error e => exact (show False from hq).elim
  | ok fl =>
    cases fl with
    | ret u => exact I1.after hq
    | next => exact False.elim hq
    | brk => exact False.elim hq
    | cont => exact False.elim hq
end
end Dn

end
section
set_option Elab.async false
set_option linter.all false
set_option maxRecDepth 100000
set_option maxHeartbeats 4000000
/-! A def that gets a lambda: what it gives, its call. -/
namespace Dn
open PySem PySem.Spec PyProof.Rows L2 LamX
variable [Tb]
def TTD (K : PySem.W.Frag) (mg : Str → Option Value) (m : (Store → Rs D) → Store → Rs D) : (XK → Hp → VK → Prop) → Hp → VK → Prop := fun tl H Q => ∃ M S act, RelH (gk K mg) M S H ∧
  (∀ E M' S' H' Q', Ext M H M' H' → RelH (gk K mg) M' S' H' → Post (gk K mg) (RD (gk K mg)) (fun cls dx _ H => E cls dx H) M' H' [] (act S') Q' → tl E H' Q') ∧ Post (gk K mg) (RD (gk K mg)) WN M H [] (m act S) Q
theorem ho_noexc {G : Gx} {W W' : WX} {M : Mp} {H H1 : Hp} {s s' : L2.St} {n : Nat} {d : (Store → Rs D) → DS} {act : Store → Rs D} {S : Store} {Q : VK} (e : Ext M H M H1) (p : Post G (RD G) W M H s (hoD n d act S) Q) : Post G (RD G) W' M H1 s' (hoD n d act S) Q := by
  cases q : hoD n d act S with
  | ok v S1 => rw [q] at p; exact fun M' y H' e' => p M' y H' (e.trans e')
  | exc c fs S1 =>
    unfold hoD at q
    split at q <;> cases q
  | bad => rw [q] at p; exact p.elim
section
variable {X : Cx} {W : WX} {e : Expr} {b : DE} {n : Nat} {d : (Store → Rs D) → DS}
theorem ext_tab {G : Gx} {M : Mp} {S : Store} {H H1 : Hp} (rh : RelH G M S H) (eN : ExtN H H1) (eN2 : ∀ b o, H b = some o → ∃ o', H1 b = some o') (T1 : Tabs G.T H1) : Ext M H M H1 ∧ RelH G M S H1 := by
  refine ⟨⟨fun _ _ h => h, fun _ _ h => h, fun _ _ h => h, fun _ _ h => .inl h, fun _ _ h => .inl h, fun a o h _ t => eN a o h t, eN2⟩, ⟨fun l o q => ?_, rh.dom, rh.inj, fun a vs q => eN a _ (rh.tup a vs q) (fun _ z => by cases z), fun a vs q => ?_, rh.apt, T1⟩⟩
  · obtain ⟨a, e1, e2⟩ := rh.obj l o q
    obtain ⟨u, e3, e4, e5, e6⟩ := e2.some
    refine ⟨a, e1, ?_⟩
    rw [eN a u e3 e5, ← e3]
    exact e2
  · rcases rh.lst a vs q with z | ⟨o, z⟩
    · exact .inl (eN a _ z (fun _ z => by cases z))
    · exact .inr ⟨o, eN a _ z (fun _ z => by cases z)⟩
theorem se_ho (h : PE X e (tLamW Tb.T (TTD X.K X.mg (hoD n d)) (fun E => tE (gk X.K X.mg) (WD E) b))) : SE X W e (eHo (hoD n d) b) := by
  refine h.dimp ?_
  rintro s H Q ⟨M, r, S, en, rh, p⟩
  refine ⟨rh.tabs, fun H1 eN eN2 T1 => ?_⟩
  obtain ⟨ext, rh1⟩ := ext_tab rh eN eN2 T1
  have p : Post (gx X) (RD (gx X)) W M H s (hoD n d (fun S' => b (deexc r) S') S) Q := p
  refine ⟨M, S, fun S' => b (deexc r) S', RelH.g (G := gx X) (pn := []) (lm := Tb.lam) rh1, fun E M' S' H' Q' e rh' p' => ?_, ?_⟩
  · exact ⟨M', deexc r, S', envR_de (G := gx X) (pn := []) (en.mono (ext.trans e)), rh', p'⟩
  · exact ho_noexc ext (Post.g (G := gx X) (pn := []) (lm := Tb.lam) p)
theorem ho_gives {Ng : List Str} {x a q : Str} {sg : Scope} {g : Addr} {cdg : Value} {bg : List Stmt} (hn : Ng.length = n) (hn1 : 1 ≤ n)
    (hb : ∀ (f : Addr) (s : Shared) (H : Hp) (M : Mp) (act : Store → Rs D), RoomG 1 (X.A.deeper (envOfC x sg s.heap.objs.size g cdg)) →
      (∀ (W : WX) (pn : List (Addr × Obj)) (xe : Value → Shared → Prop) (p1 p2 : Pos), Takes ((cxOf C8.CX0 X.prog X.w X.K X.mg X.base Ng x sg g cdg X.A X.stack s H C8.E0).tr pn xe) W →
        @SE ⟨Tb.T, some (f, M, H)⟩ ((cxOf C8.CX0 X.prog X.w X.K X.mg X.base Ng x sg g cdg X.A X.stack s H C8.E0).tr pn xe) W (.Call (.Name a p1) [] [] p2) (eAct 0 act)) →
      @SSs ⟨Tb.T, some (f, M, H)⟩ (cxOf C8.CX0 X.prog X.w X.K X.mg X.base Ng x sg g cdg X.A X.stack s H C8.E0).nox M H WN bg (d act)) :
    GivesW X Ng x sg g cdg bg a q (TTD X.K X.mg (hoD n d)) := by
  intro f c' s H Q tl hr act' hc h
  obtain ⟨M, S, act, rh, link, p⟩ := h
  have nl : ∀ l, M.loc l ≠ some c' := fun l z => by
    have hl := rh.dom l c' z
    obtain ⟨a, e1, e2⟩ := rh.obj l S[l] (by simp [hl])
    rw [z] at e1; cases e1
    obtain ⟨u, e3, e4, e5, e6⟩ := e2.some
    rw [hc] at e3
    exact code_ne (c := c') (q := q) e6 (Option.some.inj e3).symm
  refine ⟨_, hb f s H M act hr (fun W pn xe p1 p2 tk => (act' W pn xe p1 p2 tk).dimp fun σ HZ Q' h => ?_), M, .lam :: List.replicate (n - 1) .un, S, ⟨⟨?_, fun i z qz => ?_, fun i j xs ys a q1 => ?_⟩, RelH.g (G := gk X.K X.mg) (pn := []) (lm := some (f, M, H)) rh, Ext.refl, fun i xs a q1 => ?_⟩, ?_⟩
  · obtain ⟨M2, r2, S2, en2, rh2, p2⟩ := h
    unfold eAct at p2
    cases qz : r2[0]? with
    | none => rw [qz] at p2; exact p2.elim
    | some z =>
      rw [qz] at p2
      cases z with
      | lam =>
        obtain ⟨v, h1, f', M1, H1, hl, hv, ex⟩ := en2.sl 0 _ qz
        have hl : some (f, M, H) = some (f', M1, H1) := hl
        cases hl
        subst hv
        exact ⟨h1, ex.keep c' _ hc nl codeO_ne, link (WE W σ) M2 S2 HZ Q' ex (RelH.g (pn := []) (lm := Tb.lam) rh2) (Post.g (pn := []) (lm := Tb.lam) p2)⟩
      | un => exact p2.elim
      | val _ => exact p2.elim
      | own _ => exact p2.elim
      | ownd _ _ => exact p2.elim
      | exc _ _ => exact p2.elim
  · unfold L2.start
    simp
    omega
  · cases i with
    | zero =>
      simp at qz
      subst qz
      exact ⟨some (.ref f), by unfold L2.start; simp, f, M, H, rfl, rfl, Ext.refl⟩
    | succ i =>
      simp only [List.getElem?_cons_succ, List.getElem?_replicate] at qz
      split at qz
      · rename_i hi
        cases qz
        refine ⟨none, ?_, trivial⟩
        unfold L2.start
        simp only [List.map_cons, List.map_nil, List.cons_append, List.nil_append, List.getElem?_cons_succ, List.getElem?_replicate, List.length_map, List.length_cons, List.length_nil]
        rw [if_pos (by omega)]
      · cases qz
  · exfalso
    have := List.mem_of_getElem? q1
    simp at this
  · exfalso
    have := List.mem_of_getElem? q1
    simp at this
  · have p := Post.g (G := gk X.K X.mg) (pn := []) (lm := some (f, M, H)) p
    unfold hoD at p
    cases qd : d act (.lam :: List.replicate (n - 1) .un) S with
    | next r S1 => rw [qd] at p; exact fun M1 s1 H1 w1 l1 => p M1 .non H1 w1.ext w1.heap rfl
    | ret v r S1 => rw [qd] at p; exact fun M1 y s1 H1 w1 l1 rv => p M1 y H1 w1.ext w1.heap rv
    | brk r S1 => rw [qd] at p; exact p.elim
    | cont r S1 => rw [qd] at p; exact p.elim
    | exc c fs r S1 => rw [qd] at p; exact p.elim
    | bad => rw [qd] at p; exact p.elim
end
end Dn

end
section
set_option Elab.async false
set_option linter.all false
set_option maxRecDepth 100000
set_option maxHeartbeats 4000000
/-! The end of a law row, with tables of code objects. -/
namespace Dn
open PySem PySem.Spec PyProof.Rows L2 LamX
theorem walk_ofD {l : PySem.W.OpenLaw} {n k : Nat} {q : Program} {loose : List Str} {XP : (Str → Option Value) → Heap → Prop} {YP : World → Heap → Prop} {d : DefRec} {x : Str}
    (hn : l.most = some n) (hn2 : n ≤ sizeLine) (hdf : d.params.defaults = []) (hr : Room k callerA)
    (F : ∀ (w : World) (mg : Str → Option Value) (fa : Addr) (h : Heap), YP w h → h.Ns mainGlobals mg → mg d.name = some (.ref fa) →
      ∃ (K : PySem.W.Frag) (fd : FuncData) (cs : List (Addr × Addr)) (sp : Sp), K.In h ∧ (∀ p ∈ cs, h.get? p.2 = some { cls := .none, data := .fields #[] }) ∧ (∀ p ∈ cs, K.lookup p.2 = none) ∧ (∀ p ∈ cs, PySem.W.CodeHd h p.1 p.2) ∧
        (∀ (s : Shared) (u : Value), BindsTo s fd ⟨[u], []⟩ [(x, u)]) ∧
        (∀ (H : Hp) (a : Addr) (ns : List Int), ns.length ≤ n → (∀ p ∈ cs, H p.2 = some (.tbl #[])) → SqL K H a (ns.map V.int) → sp [.ref a] H (fun v _ => v = .bl true) fun _ _ _ => False) ∧
        ∀ base : Heap, K.In base → base.Ns mainGlobals mg → (∀ p ∈ cs, TabB base mg p.1 p.2) → FnG l.prog w K mg base (L2.CX l.prog w) k fa fd [x] sp) :
    PySem.W.WalkO q loose XP YP l.row.toRowW d [] (fun f vs => PySem.call f vs) := by
  refine Att.attach_callB hn hdf fun w s₀ s₁ mg mb fa o pm cd doc a vs ns G Y ho hd hcd hmg hobj hints hlen hbits hg => ?_
  obtain ⟨K, fd, cs, sp, KX, hT, nT, C, hb, hsp, hF⟩ := F w mg fa _ Y G.T.g hmg
  exact end_call KX G.T.g G.T.b G.T.builtins G.T.nolimit hg hT nT C G.T.bmain hobj hints (Nat.le_trans hlen hn2) hr hF hb fun H hH hS => hsp H a ns hlen hH hS
end Dn

end
section
set_option Elab.async false
set_option linter.all false
set_option maxRecDepth 100000
set_option maxHeartbeats 4000000
/-! Facts of classes of exceptions, one after the other. -/
namespace Dn
open PySem PySem.Spec PyProof.Rows L2
section
variable {mg : Str → Option Value} {P : Addr → Prop} {c : Str} {C : Addr} {l : List Str}
theorem ex_nil : ∀ c ∈ ([] : List Str), ∀ C, mg c = some (.ref C) → P C := fun c h => by cases h
theorem ex_cons (hg : mg c = some (.ref C)) (h : P C) (r : ∀ c ∈ l, ∀ C, mg c = some (.ref C) → P C) : ∀ c' ∈ c :: l, ∀ C, mg c' = some (.ref C) → P C := fun c' hc C' hm => by
  rcases List.mem_cons.mp hc with e | e
  · subst e
    rw [hg] at hm
    cases hm
    exact h
  · exact r c' e C' hm
theorem ex_or {l2 : List Str} (a : ∀ c ∈ l, ∀ C, mg c = some (.ref C) → P C) (b : ∀ c ∈ l2, ∀ C, mg c = some (.ref C) → P C) : ∀ c, c ∈ l ∨ c ∈ l2 → ∀ C, mg c = some (.ref C) → P C := fun c h => h.elim (a c) (b c)
end
end Dn

end
section
set_option Elab.async false
set_option linter.all false
set_option maxRecDepth 100000
set_option maxHeartbeats 4000000
/-! The head by the kit's Hook with tables; defs whose code objects are known. -/
namespace Dn
open PySem PySem.Spec PyProof.Rows L2 LamX
/-- the further facts, and that the tables stand apart -/
def exT (fx : List Fx) (tf : List He.Defn) (K : PySem.W.Frag) : Bool := (fx.all fun f => f.ok K) && decide ((tf.map fun p => (He.cT K p).2).Nodup)
abbrev hookT (n : Nat) (fx : List Fx) (fa : List He.Fa) (fn : List He.DefD) (tf : List He.Defn) : PySem.W.Hook := He.hookX n fa fn [] tf (exT fx tf)
def obsTT (n : Nat) (fx : List Fx) (fa : List He.Fa) (fn : List He.DefD) (tf : List He.Defn) (g : Addr → Option Obj) : He.AlX := He.obsX n fa fn [] tf (exT fx tf) g
theorem obsTT_eq {n : Nat} {fx : List Fx} {fa : List He.Fa} {fn : List He.DefD} {tf : List He.Defn} {g : Addr → Option Obj} {s : Shared} (h : ∀ a, g a = s.heap.get? a) : obsTT n fx fa fn tf g = (hookT n fx fa fn tf).obs s := He.obsX_eq h
structure SaysT (fx : List Fx) (fa : List He.Fa) (fn : List He.DefD) (tf : List He.Defn) (K : PySem.W.Frag) : Prop where
  d : He.SaysD fa fn K
  x : (fx.all fun f => f.ok K) = true
  nd : (tf.map fun p => (He.cT K p).2).Nodup
theorem saysT_of {fx : List Fx} {fa : List He.Fa} {fn : List He.DefD} {tf : List He.Defn} {w : World} {h : Heap} {K : PySem.W.Frag} (c : He.SaysX fa fn [] tf (exT fx tf) w h K) : SaysT fx fa fn tf K := by
  have e := c.more
  unfold exT at e
  simp only [Bool.and_eq_true, decide_eq_true_eq] at e
  exact ⟨congrArg (fun z : He.AlT => z.1) c.t, e.1, e.2⟩
section
variable {fx : List Fx} {fa : List He.Fa} {fn : List He.DefD} {tf : List He.Defn} {K : PySem.W.Frag}
theorem SaysT.fact (c : SaysT fx fa fn tf K) (i : Nat) {f : He.Fa} (h : fa[i]? = some f := by rfl) : f.ok K = true := c.d.fact i h
theorem SaysT.def_ (c : SaysT fx fa fn tf K) (i : Nat) {d : He.DefD} (h : fn[i]? = some d := by rfl) : ∃ fd, FunD K d.name d.qual d.params d.body d.scope (d.dvs K) (d.kws K) (He.fAd K d.at_) fd := c.d.def_ i h
theorem SaysT.more (c : SaysT fx fa fn tf K) (i : Nat) {f : Fx} (h : fx[i]? = some f := by rfl) : f.ok K = true := List.all_eq_true.mp c.x f (List.mem_of_getElem? h)
end
/-- an empty table is one -/
theorem tabs_empty {T : List (Addr × Str)} {H : Hp} (h : ∀ p ∈ T, H p.1 = some (.tbl #[])) : Tabs T H := fun p hp => ⟨#[], h p hp, trivial, fun pos cv z => by cases z⟩
/-- the tables of the defs that hold lambdas -/
def tbl (K : PySem.W.Frag) (l : List (He.Defn × Str)) : List (Addr × Str) := l.map fun p => ((He.cT K p.1).2, p.2)
theorem tbl_mem {K : PySem.W.Frag} {l : List (He.Defn × Str)} {p : He.Defn} {q : Str} (h : (p, q) ∈ l) : ((He.cT K p).2, q) ∈ tbl K l := List.mem_map.mpr ⟨(p, q), h, rfl⟩
theorem tbl_one {K : PySem.W.Frag} {l : List (He.Defn × Str)} (nd : (l.map fun p => (He.cT K p.1).2).Nodup) {p : He.Defn} {q : Str} (h : (p, q) ∈ l) : ∀ z ∈ tbl K l, z.1 = (He.cT K p).2 → z.2 = q := fun z hz e => by
  obtain ⟨⟨p', q'⟩, h', rfl⟩ := List.mem_map.mp hz
  have inj : ∀ {l : List (He.Defn × Str)}, (l.map fun p => (He.cT K p.1).2).Nodup → ∀ {x y}, x ∈ l → y ∈ l → (He.cT K x.1).2 = (He.cT K y.1).2 → x = y := by
    intro l
    induction l with
    | nil => intro _ x y hx; cases hx
    | cons a l ih =>
      intro nd x y hx hy e
      rw [List.map_cons, List.nodup_cons] at nd
      rcases List.mem_cons.mp hx with e1 | h1 <;> rcases List.mem_cons.mp hy with e2 | h2
      · rw [e1, e2]
      · exact absurd (List.mem_map.mpr ⟨y, h2, by rw [← e1]; exact e.symm⟩) nd.1
      · exact absurd (List.mem_map.mpr ⟨x, h1, by rw [← e2]; exact e⟩) nd.1
      · exact ih nd.2 h1 h2 e
  have := inj nd h' h e
  cases this
  rfl
variable [Tb]
section
variable {P : Program} {w : World} {K : PySem.W.Frag} {mg : Str → Option Value} {base : Heap}
/-- a def that holds lambdas: its code object is known -/
theorem fn_okL {x qual : Str} {params : Arguments} {body : List Stmt} {scope : Scope} {at_ : He.Defn} {fd : FuncData} {N ps : List Str} {k np n : Nat} {d : DS} (F : FunD K x qual params body scope [] [] (He.fAd K at_) fd) (S : FnScope N ps scope) (hp : ps.length = np) (hn : N.length = n)
    (hb : ∀ (A : Around) (outer : List Env) (s : Shared) (H : Hp) (E : XK) (M0 : Mp), RoomG k (A.deeper (envOfC qual scope s.heap.objs.size (He.fAd K at_) (.ref (He.cT K at_).1))) →
      Takes (cxOf (L2.CX P w) P w K mg base N qual scope (He.fAd K at_) (.ref (He.cT K at_).1) A outer s H E) (WD E) →
      PassesOwn (model P w) (A.deeper (envOfC qual scope s.heap.objs.size (He.fAd K at_) (.ref (He.cT K at_).1))) (envOfC qual scope s.heap.objs.size (He.fAd K at_) (.ref (He.cT K at_).1)) (cxOf (L2.CX P w) P w K mg base N qual scope (He.fAd K at_) (.ref (He.cT K at_).1) A outer s H E).xe →
      SSs (cxOf (L2.CX P w) P w K mg base N qual scope (He.fAd K at_) (.ref (He.cT K at_).1) A outer s H E) M0 H (WD E) body d) :
    FnG P w K mg base (L2.CX P w) (k + 1) (He.fAd K at_) fd ps (spD (gk K mg) (fnD np n d)) := by
  obtain ⟨oc, od, dV, kV, doc, pm, an, cdv, ct, osl, rfl, lk, hcd, e1, e2⟩ := F.ex
  obtain ⟨c, rfl⟩ := He.codeIn_ref hcd
  have hc : (He.cT K at_).1 = c := He.codeOf_eq lk rfl
  have key : ∀ cdv' : Value, cdv' = .ref (He.cT K at_).1 → FnG P w K mg base (L2.CX P w) (k + 1) (He.fAd K at_) (PySem.W.fnOf x qual params body scope dV kV doc pm an cdv' ct) ps (spD (gk K mg) (fnD np n d)) := fun cdv' hcdv => by
    subst hcdv
    -- the proof of fn_okX, at this code object
    have len : ∀ {vs : List V} {M : Mp} {ds : List D} {St : Store} {H : Hp} {Q : VK} {E : XK}, RelDs (gk K mg) M ds vs → Post (gk K mg) (RD (gk K mg)) (fun cls dx _ H => E cls dx H) M H [] (fnD np n d ds St) Q → ds.length = np := fun {vs M ds St H Q E} _ p => by
      unfold fnD at p
      split at p
      · assumption
      · exact p.elim
    refine fn_gl (by rw [hc]; exact lk) (by rw [hc]; exact hcd) S (fun vs H Q E h => ?_) fun A outer s H vs Q E hr h => ?_
    · obtain ⟨M, ds, St, rd, rh, p⟩ := h
      rw [hp, ← len rd p, rd.len]
    · obtain ⟨M, ds, St, rd, rh, p⟩ := h
      have hl := len rd p
      refine ⟨_, hb A outer s H E M hr (takes_of rfl rfl rfl rfl) (passes_of rfl), M, ds.map Sl.val ++ List.replicate (n - np) Sl.un, St, ⟨⟨?_, fun i z q => ?_, fun i j xs ys a q1 => ?_⟩, rh, Ext.refl, fun i xs a q1 => ?_⟩, ?_⟩
      · have pre : ps.length ≤ N.length := by
          have := congrArg List.length S.pre
          rw [List.length_take] at this
          omega
        unfold L2.start
        simp only [List.length_append, List.length_map, List.length_replicate]
        rw [← rd.len]
        omega
      · unfold L2.start
        by_cases hi : i < ds.length
        · rw [List.getElem?_append_left (by simpa using hi), List.getElem?_map] at q
          obtain ⟨dx, hdx⟩ : ∃ dx, ds[i]? = some dx := ⟨ds[i], by simp [hi]⟩
          rw [hdx] at q
          cases q
          obtain ⟨v, hv, rv⟩ := rd.get hdx
          refine ⟨some v, ?_, v, rfl, rv⟩
          rw [List.getElem?_append_left (by simpa using (rd.len ▸ hi)), List.getElem?_map, hv]
          rfl
        · rw [List.getElem?_append_right (by simpa using hi)] at q
          rw [List.getElem?_replicate] at q
          split at q
          · rename_i hj
            cases q
            refine ⟨none, ?_, trivial⟩
            rw [List.getElem?_append_right (by simpa using (rd.len ▸ Nat.le_of_not_lt hi)), List.getElem?_replicate, if_pos (by
              simp only [List.length_map] at hj ⊢
              rw [← rd.len]
              omega)]
          · cases q
      · exfalso
        have := List.mem_of_getElem? q1
        simp at this
      · exfalso
        have := List.mem_of_getElem? q1
        simp at this
      · unfold fnD at p
        rw [if_pos hl] at p
        cases q : d (ds.map Sl.val ++ List.replicate (n - np) Sl.un) St with
        | next r S1 => rw [q] at p; exact fun M1 s1 H1 w1 l1 => p M1 .non H1 w1.ext w1.heap rfl
        | ret v r S1 => rw [q] at p; exact fun M1 y s1 H1 w1 l1 rv => p M1 y H1 w1.ext w1.heap rv
        | brk r S1 => rw [q] at p; exact p.elim
        | cont r S1 => rw [q] at p; exact p.elim
        | exc c fs r S1 => rw [q] at p; exact fun M1 s1 H1 C dx w1 l1 g x => p M1 H1 C dx w1.ext w1.heap g x
        | bad => rw [q] at p; exact p.elim
  exact key (.ref c) (by rw [hc])
end
end Dn

end
section
set_option Elab.async false
set_option linter.all false
set_option maxRecDepth 100000
set_option maxHeartbeats 4000000
/-! x(lambda: e), as a rule. -/
namespace Dn
open PySem PySem.Spec PyProof.Rows L2 LamX
variable [Tb]
section
variable {X : Cx} {W : WX} {b : DE} {n k : Nat} {d : (Store → Rs D) → DS}
theorem se_lam {x a : Str} {at_ : He.Defn} {T : List (He.Defn × Str)} {pg : Arguments} {bg : List Stmt} {sg : Scope} {fdx : FuncData} {g : Addr} {Ng : List Str} {params : Arguments} {body : Expr} {scope : Scope} {p lpos pos : Pos}
    (F : FunD X.K x x pg bg sg [] [] g fdx) (hg : Gl X x) (hm : X.mg x = some (.ref g)) (hb : L2.Binds X.K fdx [a] []) (Sg : FnScope Ng [a] sg) (hNg : Ng[0]? = some a) (hva : Vis sg a)
    (hG : ∀ cdv, GivesW X Ng x sg g cdv bg a (X.env.qual ++ "<lambda>") (TTD X.K X.mg (hoD n d)))
    (hT : Tb.T = tbl X.K T) (nd : (T.map fun p => (He.cT X.K p.1).2).Nodup) (hmT : (at_, X.env.qual ++ "<lambda>") ∈ T) (TB : TabB X.base X.mg (He.cT X.K at_).1 (He.cT X.K at_).2) (hcode : X.env.code = .ref (He.cT X.K at_).1)
    (hr : RoomG (k + 2) X.A) (L : LamS X.env.scope scope) (hdef : defaultsOf params X.env = ([], []))
    (hbind : ∀ (q : Str) (cl : List (Str × Addr)) (pm cv ctv : Value), bindArgs (PySem.W.kla_fn "<lambda>" q params body scope cl pm cv ctv) ⟨[], []⟩ = pure [])
    (hbody : ∀ (A : Around) (outer : List Env) (s : Shared) (H : Hp) (E : XK) (f c' : Addr), RoomG k (A.deeper (lamEnv X scope s.heap.objs.size f c')) → Takes (lamCx X A outer s H E scope f c') (WD E) → SE (lamCx X A outer s H E scope f c') (WD E) body b)
    (hdb : (x == ("__debug__" : Str)) = false := by decide) (hd : (a == ("__debug__" : Str)) = false := by decide) (hcd : (a == ("__classdict__" : Str)) = false := by decide) :
    SE X W (.Call (.Name x p) [.Lambda params body scope lpos] [] pos) (eHo (hoD n d) b) := by
  obtain ⟨oc, od, dV, kV, doc, pm, an, cdv, ct, osl, rfl, lk, hcg, _, _⟩ := F.ex
  refine se_ho (pe_lamW (t := fun E => tE (gk X.K X.mg) (WD E) b) hg hm F.kp lk hcg hb Sg hNg hva (hG cdv) TB hcode (hT ▸ tbl_mem hmT) (hT ▸ tbl_one nd hmT) hr L hdef hbind (fun A outer s H E f c' hr' => ?_) hdb hd hcd)
  exact hbody A outer s H E f c' hr' (takes_of rfl rfl rfl rfl)
end
end Dn

end
section
set_option Elab.async false
set_option linter.all false
set_option maxRecDepth 100000
set_option maxHeartbeats 4000000
/-! Lists of a def's own: what they hold changes. -/
namespace Dn
open PySem PySem.Spec PyProof.Rows L2 LamX
/-- no lambda in hand, or one got at the def's entry -/
def LamAt (G : Gx) (H0 : Hp) : Prop := ∀ f M1 H1, G.lam = some (f, M1, H1) → H1 = H0
variable [Tb]
section
variable {G : Gx} {M0 M : Mp} {H0 H : Hp} {r : Rho} {S : Store} {s : L2.St} {i : Nat} {xs ys : List D} {p : Addr} {vs ws : List V}
/-- the list at slot i holds others -/
theorem Wst.ownPut (w : Wst G M0 H0 M r S s H) (la : LamAt G H0) (q : r[i]? = some (.own xs)) (e1 : s[i]? = some (some (.ref p))) (hp : H p = some (.lst vs)) (rd : RelDs G M ys ws) : Wst G M0 H0 M (r.set i (.own ys)) S s (L2.upd H p (.lst ws)) := by
  have hi : i < r.length := (List.getElem?_eq_some_iff.mp q).1
  have h0 : H0 p = none := w.own i xs p q e1
  obtain ⟨v, e1', p', vs', e2, e3, e4, e5, e6⟩ := w.env.sl i _ q
  rw [e1] at e1'; cases e1'; cases e2
  have back : ∀ (j : Nat) (zs : List D), (r.set i (.own ys))[j]? = some (Sl.own zs) → j = i ∨ (j ≠ i ∧ r[j]? = some (Sl.own zs)) := fun j zs k => by
    by_cases e : j = i
    · exact .inl e
    · rw [List.getElem?_set_ne (Ne.symm e)] at k
      exact .inr ⟨e, k⟩
  have orig : ∀ (j : Nat) (zs : List D), (r.set i (.own ys))[j]? = some (Sl.own zs) → ∃ zs', r[j]? = some (Sl.own zs') := fun j zs k => by
    rcases back j zs k with e | ⟨_, e⟩
    · exact ⟨xs, by rw [e]; exact q⟩
    · exact ⟨zs, e⟩
  refine ⟨⟨by rw [List.length_set]; exact w.env.len, fun j x k => ?_, fun j k xs' ys' a q1 q2 q3 q4 => ?_⟩, w.heap.unk hp e5 e6, w.ext.unk h0, fun j zs a q1 q2 => ?_⟩
  · by_cases e : j = i
    · subst e
      rw [List.getElem?_set_self hi] at k
      cases k
      exact ⟨_, e1, p, ws, rfl, upd_same, rd, e5, e6⟩
    · rw [List.getElem?_set_ne (Ne.symm e)] at k
      obtain ⟨v, k1, k2⟩ := w.env.sl j x k
      refine ⟨v, k1, ?_⟩
      cases x with
      | un => trivial
      | val d => exact k2
      | own zs =>
        obtain ⟨a, us, y1, y2, y3, y4, y5⟩ := k2
        subst y1
        have ne : a ≠ p := fun z1 => by
          subst z1
          exact e (w.env.apt j i zs xs a k q k1 e1)
        exact ⟨a, us, rfl, by rw [upd_ne ne]; exact y2, y3, y4, y5⟩
      | ownd _ _ => exact k2
      | exc c fs =>
        obtain ⟨a, oe, C, dx, y1, y2, y3, y4, y5, y6⟩ := k2
        refine ⟨a, oe, C, dx, y1, y2, y3, y4, y5, ?_⟩
        rcases y6 with z | ⟨d, vfs, z1, z2, z3, z4⟩
        · exact .inl z
        · have ne : d ≠ p := fun z => by rw [z, hp] at z2; cases z2
          exact .inr ⟨d, vfs, z1, by rw [upd_ne ne]; exact z2, z3, z4⟩
      | lam =>
        obtain ⟨f, M1, H1, l1, l2, l3⟩ := k2
        have := la f M1 H1 l1
        subst this
        exact ⟨f, M1, H1, l1, l2, l3.unk h0⟩
  · obtain ⟨z1, o1⟩ := orig j xs' q1
    obtain ⟨z2, o2⟩ := orig k ys' q2
    exact w.env.apt j k z1 z2 a o1 o2 q3 q4
  · obtain ⟨z1, o1⟩ := orig j zs q1
    exact w.own j z1 a o1 q2
end
section
variable {X : Cx} {M0 : Mp} {H0 : Hp} {W : WX} {e : Expr} {da dk : DE} {dl : DL} {ds : DA} {pos : Pos} {st : Stmt} {i : Nat}
/-- xs.append(e) -/
theorem ss_app (la : LamAt (gx X) H0) (h : PS X st (tDrop (tBM X.K "list" rAppend (tVar i) (tCons (tE (gx X) W da) tNil)))) : SS X M0 H0 W st (sApp i da) := by
  refine h.dimp ?_
  rintro D s H ⟨M, r, S, w, p⟩
  unfold sApp at p
  cases q : r[i]? with
  | none => rw [q] at p; exact p.elim
  | some z =>
    rw [q] at p
    cases z with
    | own xs =>
      obtain ⟨v, e1, a, vs, rfl, e2, e3, e4, e5⟩ := w.env.sl i _ q
      refine ⟨.ref a, e1, .inl ⟨rfl, vs, .inl (.inl e2)⟩, M, r, S, w.env, w.heap, (PostS.toS (R := RD (gx X)) w p).imp fun y H1 h => ?_⟩
      obtain ⟨M1, x, S1, w1, e, rv, p1⟩ := h
      obtain ⟨v', f1, a', vs', f2, f3, f4, f5, f6⟩ := w1.env.sl i _ q
      rw [e1] at f1; cases f1; cases f2
      dsimp only at p1
      split at p1
      · rename_i hz
        exact ⟨a, vs', y, rfl, rfl, f3, by rw [← f4.len]; exact hz, p1 M1 s _ (w1.ownPut la q e1 f3 (f4.append (RelDs.nil.cons rv))) Le.refl⟩
      · exact p1.elim
    | un => exact p.elim
    | val _ => exact p.elim
    | ownd _ _ => exact p.elim
    | exc _ _ => exact p.elim
    | lam => exact p.elim
/-- xs[k] = e -/
theorem ss_put (la : LamAt (gx X) H0) (h : PS X st (tAsg (tE (gx X) W da) (gSub (tVar i) (tE (gx X) W dk) rSetL))) : SS X M0 H0 W st (sPut i dk da) := by
  refine h.dimp ?_
  rintro D s H ⟨M, r, S, w, p⟩
  refine ⟨M, r, S, w.env, w.heap, (PostS.toS (R := RD (gx X)) w p).imp fun y H1 h => ?_⟩
  obtain ⟨M1, v, S1, w1, e1, rv, p1⟩ := h
  cases q : r[i]? with
  | none => rw [q] at p1; exact p1.elim
  | some z =>
    rw [q] at p1
    cases z with
    | own xs =>
      obtain ⟨u, f1, a, vs, rfl, f2, f3, f4, f5⟩ := w1.env.sl i _ q
      refine ⟨.ref a, f1, M1, r, S1, w1.env, w1.heap, (PostS.toS (R := RD (gx X)) w1 p1).imp fun z2 H3 h => ?_⟩
      obtain ⟨M3, n, S3, w3, e3, rn, p3⟩ := h
      split at p3
      · rename_i j xs' hj
        cases hj
        cases (show _ = _ from rn)
        obtain ⟨u', g1, a', vs', g2, g3, g4, g5, g6⟩ := w3.env.sl i _ q
        rw [f1] at g1; cases g1; cases g2
        split at p3
        · rename_i m hm
          exact ⟨a, vs', j, m, rfl, rfl, g3, by rw [← g4.len]; exact hm, p3 M3 s _ (w3.ownPut la q f1 g3 (g4.set m (rv.mono e3))) Le.refl⟩
        · exact p3.elim
      · exact p3.elim
    | un => exact p1.elim
    | val _ => exact p1.elim
    | ownd _ _ => exact p1.elim
    | exc _ _ => exact p1.elim
    | lam => exact p1.elim
theorem lamAt_none (h : Tb.lam = none) : LamAt (gx X) H0 := fun f M1 H1 e => by
  have : Tb.lam = some (f, M1, H1) := e
  rw [h] at this
  cases this
end
end Dn

end
section
set_option Elab.async false
set_option linter.all false
set_option maxRecDepth 100000
set_option maxHeartbeats 4000000
/-! The end of a law row: what a text must show. -/
namespace Dn
open PySem PySem.Spec PyProof.Rows L2 LamX
/-- what the defs' proofs take of the surroundings: no lambda in hand; tl, the defs that hold lambdas -/
structure Tx [Tb] (tl : List (He.Defn × Str)) (K : PySem.W.Frag) (mg : Str → Option Value) (base : Heap) : Prop where
  lam : Tb.lam = none
  T : Tb.T = tbl K tl
  nd : (tl.map fun p => (He.cT K p.1).2).Nodup
  tb : ∀ p ∈ tl, TabB base mg (He.cT K p.1).1 (He.cT K p.1).2
theorem walk_ofG {l : PySem.W.OpenLaw} {k i0 : Nat} {q : Program} {loose : List Str} {XP : (Str → Option Value) → Heap → Prop} {d : DefRec} {x : Str} {fx : List Fx} {fa : List He.Fa} {fn : List He.DefD} {tl : List (He.Defn × Str)}
    (hn : l.most = some 63) (hdf : d.params.defaults = []) (hr : Room k callerA)
    (F : ∀ (w : World) (mg : Str → Option Value) (f : Addr) (h : Heap) (K : PySem.W.Frag), K.In h → SaysT fx fa fn (tl.map (·.1)) K → h.Ns mainGlobals mg → mg d.name = some (.ref f) →
      ∃ (fd : FuncData) (m : Fn), (∀ (s : Shared) (u : Value), BindsTo s fd ⟨[u], []⟩ [(x, u)]) ∧ (∀ ns : List Int, ns.length ≤ 63 → ∃ S, m [.lst (ns.map D.int)] [] = .ok (.bl true) S) ∧
        ∀ base : Heap, K.In base → base.Ns mainGlobals mg → ∀ [Tb], Tx tl K mg base → FnG l.prog w K mg base (L2.CX l.prog w) k f fd [x] (spD (gk K mg) m)) :
    PySem.W.WalkO q loose XP (hookT i0 fx fa fn (tl.map (·.1))).says l.row.toRowW d [] (fun f vs => PySem.call f vs) := by
  refine walk_ofD (n := 63) (k := k) (x := x) hn (by rw [sizeLine_eq]; omega) hdf hr fun w mg f h Y G hm => ?_
  obtain ⟨K, KX, c⟩ := Y
  have c0 : SaysT fx fa fn (tl.map (·.1)) K := saysT_of c
  obtain ⟨fd, m, h1, h2, h3⟩ := F w mg f h K KX c0 G hm
  letI : Tb := ⟨tbl K tl, none⟩
  have of_cs : ∀ p ∈ tl.map (fun p => He.cT K p.1), ∃ z ∈ tl, He.cT K z.1 = p := fun p hp => by
    obtain ⟨z, hz, e⟩ := List.mem_map.mp hp
    exact ⟨z, hz, e⟩
  refine ⟨K, fd, tl.map fun p => He.cT K p.1, spD (gk K mg) m, KX, fun p hp => ?_, fun p hp => ?_, fun p hp => ?_, h1, fun H a ns hl hT hS => ?_, fun base hb hg htb => ?_⟩
  · obtain ⟨z, hz, rfl⟩ := of_cs p hp
    exact c.empty z.1 (List.mem_map.mpr ⟨z, hz, rfl⟩)
  · obtain ⟨z, hz, rfl⟩ := of_cs p hp
    exact c.out z.1 (List.mem_map.mpr ⟨z, hz, rfl⟩)
  · obtain ⟨z, hz, rfl⟩ := of_cs p hp
    exact PySem.W.codeHd_of_K KX (c.hd z.1 (List.mem_map.mpr ⟨z, hz, rfl⟩))
  · refine law_spX h2 H a ns hl (tabs_empty fun p hp => ?_) hS
    obtain ⟨z, hz, rfl⟩ := List.mem_map.mp hp
    exact hT (He.cT K z.1) (List.mem_map.mpr ⟨z, hz, rfl⟩)
  · refine h3 base hb hg ⟨rfl, rfl, ?_, fun p hp => htb (He.cT K p.1) (List.mem_map.mpr ⟨p, hp, rfl⟩)⟩
    have := c0.nd
    rw [List.map_map] at this
    exact this
end Dn

end
section
set_option Elab.async false
set_option linter.all false
set_option maxRecDepth 100000
set_option maxHeartbeats 4000000
/-! enumerate of a tuple, zip; `is True`. -/
namespace Dn
open PySem PySem.Spec PyProof.Rows L2
variable [Tb]
/-! ### enumerate(tuple) -/
theorem meets_enum1 {v : Value} {o : Obj} {H : Heap → Prop} (B : Begins v o H) :
    Meets (Builtin.«enumerate.__new__» ⟨[.type "enumerate", v], []⟩) (fun _ R s => H s.heap ∧
      R (.ok (.ret (.ref (s.heap.push o).objs.size))) { s with heap := (s.heap.push o).push { cls := .type "enumerate", data := .fields #[.none, .bool false, .ref s.heap.objs.size, rawInt 0, .none, .none] } }) :=
  .of_wp fun prog w A R s h => by
    obtain ⟨hp, g, d, tk, os⟩ := s
    obtain ⟨h1, h⟩ := h
    have hsub := sub_enumerate
    have q1 : ∀ {A' : Around} {E : Value → Shared → Prop} {Q : Value → Shared → Prop}, Q (.ref hp.objs.size) ⟨hp.push o, g, d, tk, os⟩ → wpAny (model prog w) A' (pyIter v) Q E ⟨hp, g, d, tk, os⟩ :=
      fun q => B.iter prog w _ _ ⟨hp, g, d, tk, os⟩ _ h1 q
    wp_walk using q1
    refine wpAny_stack_any fun st => wpAny_pure ?_
    split
    · rename_i c _ _ _ _ _
      cases (c == Value.type "enumerate")
      · wp_walk using q1
        exact ⟨_, rfl, h⟩
      · wp_walk using q1
        exact ⟨_, rfl, h⟩
    · wp_walk using q1
      exact ⟨_, rfl, h⟩
theorem call_enum1 {prog : Program} {w : World} {A : Around} {E : Value → Shared → Prop} {s : Shared} {v : Value} {o : Obj} {H : Heap → Prop} {Q : Value → Shared → Prop} (B : Begins v o H) (h1 : H s.heap)
    (h : ∀ h', IsEnum h' (s.heap.objs.size + 1) s.heap.objs.size 0 .none → h'.get? s.heap.objs.size = some o → h'.objs.size = s.heap.objs.size + 2 →
      (∀ b o, s.heap.get? b = some o → h'.get? b = some o) → Q (.ref (s.heap.objs.size + 1)) { s with heap := h' }) :
    wpAny (model prog w) A (call (.type "enumerate") [v]) Q E s := by
  refine callType_new F.called_enumerate (by decide) (F.typeCall_enumerate_1 _) (F.newCall_enumerate_1 _) (fun obj => F.args_object_init_2 obj _) F.entry_enumerate_new (meets_enum1 B) ⟨h1, ?_⟩
  have hz : (s.heap.push o).objs.size = s.heap.objs.size + 1 := Heap.size_push ..
  show _ ∧ _
  rw [hz]
  have he : IsEnum ((s.heap.push o).push { cls := .type "enumerate", data := .fields #[.none, .bool false, .ref s.heap.objs.size, rawInt 0, .none, .none] }) (s.heap.objs.size + 1) s.heap.objs.size 0 .none := by
    have := Heap.get?_push_size (s.heap.push o) (o := { cls := .type "enumerate", data := .fields #[.none, .bool false, .ref s.heap.objs.size, rawInt 0, .none, .none] }) rfl
    rw [hz] at this; exact this
  exact ⟨⟨_, he, rfl⟩, h _ he (Heap.get?_push_of_some _ (Heap.get?_push_size _ B.free)) (by rw [Heap.size_push, hz]) fun b o x => Heap.get?_push_of_some _ (Heap.get?_push_of_some _ x)⟩
def IteT (K : PySem.W.Frag) (a : Addr) : It :=
  ⟨fun i H => ∃ (xs : List V) (x : V), SqT K H a xs ∧ xs[i]? = some x, fun i H v H' => ∃ T x, v = .ref T ∧ H T = none ∧ H' = upd H T (.tup [.int (i : Nat), x]) ∧ ∀ xs, SqT K H a xs → xs[i]? = some x, fun i H => ∃ xs : List V, SqT K H a xs ∧ xs.length ≤ i⟩
theorem turn_enumT {P : Program} {w : World} {K : PySem.W.Frag} {elts : List Expr} {kk : Nat} {tpos : Pos} (a e it : Addr) :
    Turn P w K (.Tuple elts kk tpos) (IteT K a) [e, it] e (fun i h => (∃ old, IsEnum h e it ((i : Nat) : Int) old) ∧ h.IsTupleIter it a i ∧ e ≠ it) where
  mem := by simp
  obj := fun i h st b hb => by
    obtain ⟨⟨old, he⟩, ⟨o, ho, hc, hd⟩, _⟩ := st
    rcases List.mem_cons.mp hb with z | z
    · rw [z]; exact ⟨_, he, fun v q => nomatch q⟩
    · rw [List.mem_singleton.mp z]; exact ⟨o, ho, fun v q => by rw [hd] at q; cases q⟩
  keep := fun i h h' st k => let ⟨⟨old, he⟩, hi, hne⟩ := st; ⟨⟨old, k e (by simp) _ he⟩, hi.at fun o q => k it (by simp) o q, hne⟩
  item := by
    intro X hP hw hK hc i pins s z H E I hf st hg
    subst hP hw hK
    obtain ⟨⟨old, he⟩, hit, hne⟩ := st
    obtain ⟨xs, x, hq, hx⟩ := hg
    obtain ⟨its, rv, p, hz⟩ := I.tuple hq
    obtain ⟨u, hu, ru⟩ := rv.get hx
    have hel : e < s.heap.objs.size := Heap.lt_size he
    have hil : it < s.heap.objs.size := by obtain ⟨_, q, _⟩ := hit; exact Heap.lt_size q
    have pt : s.heap.IsTuple a its.toArray := p
    have nae : e ≠ a := fun z => by
      obtain ⟨o, ho, hcl, _⟩ := id pt
      rw [← z] at ho
      have he' : s.heap.get? e = some _ := he
      rw [ho] at he'
      cases he'
      have hcl : Value.type "enumerate" = Value.type "tuple" := hcl
      exact absurd hcl (by decide)
    have nai : a ≠ it := fun z => by
      obtain ⟨o, ho, hcl, _⟩ := id pt
      obtain ⟨o2, ho2, hc2, _⟩ := id hit
      rw [z] at ho
      rw [ho] at ho2
      cases ho2
      rw [hcl] at hc2
      exact absurd hc2 (by decide)
    have hii : i < its.toArray.size := by
      have := (List.getElem?_eq_some_iff.mp hu).1
      simpa using this
    refine wpAny_pyNext_enum_itemD (Draws.tuple (A := X.A.in1) (I.ok.hd hc) it a nai its.toArray) he ⟨hit, pt⟩ hii hne (by simp [hne, nae]) fun x' h' tk hP ho hst hT hsz hk => ?_
    have hxu : x' = u := by
      have hP : its.toArray[i]? = some x' := hP
      have : its[i]? = some x' := by simpa using hP
      rw [hu] at this
      exact (Option.some.inj this).symm
    subst hxu
    refine ⟨_, rfl, wpAny_letOwnedTupleGo_enum (s := { s with heap := h', toks := tk + 1 }) ho fun h'' he' sb => ?_⟩
    have hT2 : h''.get? s.heap.objs.size = some { cls := .type "tuple", data := .seq #[.int i tk, x'] } := (sb.2 _ (Nat.ne_of_gt hel)).trans hT
    have new : ObjOk X.prog X.w (upd H s.heap.objs.size (.tup [.int (i : Nat), x])) h'' s.heap.objs.size (.tup [.int (i : Nat), x]) :=
      ⟨by show 2 ≤ sizeLine; decide, [.int i tk, x'], .cons ⟨_, rfl⟩ (.cons ru .nil), ⟨_, hT2, rfl, _, rfl⟩⟩
    have I1 : Inv X pins z (upd H s.heap.objs.size (.tup [.int (i : Nat), x])) { s with heap := h'', toks := tk + 1 } :=
      I.turnedNew (ch := [e, it]) (fun b ob hb q => (sb.2 b (fun z => hb (by simp [z]))).trans (hk b ob (fun z => hb (by simp [z])) (fun z => hb (by simp [z])) q)) hf (Nat.le_refl _) new
    refine ⟨.ref s.heap.objs.size, _, I1, rfl, ⟨_, x, rfl, I.hok.fresh (Nat.le_refl _), rfl, fun ys hy => by rw [I.tuple_inj hy hq]; exact hx⟩, ⟨⟨x', ?_⟩, hst.1.at fun o q => (sb.2 it (Ne.symm hne)).trans q, hne⟩, fun b hb => ?_⟩
    · have e1 : ((i + 1 : Nat) : Int) = (i : Int) + 1 := by omega
      rw [e1]; exact he'
    · have hb' : b < s.heap.objs.size := by
        rcases List.mem_cons.mp hb with z | z
        · rw [z]; exact hel
        · rw [List.mem_singleton.mp z]; exact hil
      rw [upd_ne (Nat.ne_of_lt hb')]
      exact (hf b hb).1
  done := by
    intro X hP hw hK hc i pins s z H E I hf st hg
    subst hP hw hK
    obtain ⟨⟨old, he⟩, hit, hne⟩ := st
    obtain ⟨xs, hq, hx⟩ := hg
    obtain ⟨its, rv, p, hz⟩ := I.tuple hq
    obtain ⟨f0, f1, f2, f3, f4, f5⟩ := hf it (by simp)
    have hl := rv.length
    have pt : s.heap.IsTuple a its.toArray := p
    have nai : a ≠ it := fun z => by
      obtain ⟨o, ho, hcl, _⟩ := id pt
      obtain ⟨o2, ho2, hc2, _⟩ := id hit
      rw [z] at ho
      rw [ho] at ho2
      cases ho2
      rw [hcl] at hc2
      exact absurd hc2 (by decide)
    have hT : s.TypeIs (.ref e) "enumerate" := ⟨_, he, rfl⟩
    unfold pyNext
    refine wpAny_bind (wpAny_attempt (wpAny_callSpecial?_slot (name := Str.ofString "__next__") hT F.slot_enumerate_next
      (wpAny_call_entry F.slot_enumerate_next hT F.entry_enumerate_next ?_ (F.args_enumerate_next_1 _))))
    show wpAny _ _ (field (.ref e) 2 >>= _) _ _ _
    refine wpAny_bind (wpAny_field he rfl (x := .ref it) rfl ?_)
    refine wpAny_bind (wpAny_nextOf_tuple_end (I.ok.hd hc) hit pt (by simp; omega) fun h' x he' hx' => ?_)
    obtain ⟨o, ho, hcl⟩ := hx'
    refine wpAny_bind (wpAny_isInstance (T := "StopIteration") (b := true) ⟨o, ho, hcl⟩ isSubtype_stop ?_)
    exact wpAny_pure ⟨rfl, I.turned (t' := s.toks) (fun b o hb q => he' b o hb q) f0 f1 f3 f4 f5⟩
  self := fun A i s Q E st h => let ⟨⟨_, he⟩, _⟩ := st; wpAny_pyIter_enum he h
/-- enumerate of a list or a tuple -/
def iEnumA (K : PySem.W.Frag) (ta : TA) : TI := fun s H R => ta s H fun vs H1 => ∃ a xs, vs = [.ref a] ∧ ((SqL K H1 a xs ∧ (xs.length ≤ sizeLine → R (Ite K a) H1)) ∨ (SqT K H1 a xs ∧ (xs.length ≤ sizeLine → R (IteT K a) H1)))
theorem pi_enumA {X : Cx} {e : Expr} {ta : TA} {p pos tpos : Pos} {elts : List Expr} {kk : Nat} (hg : Gl X "enumerate") (hm : X.mg "enumerate" = none) (ha : PA X [e] ta) (hs : starEach [e] X.env = [(false, eval e X.env)] := by rfl) :
    PI X (.Tuple elts kk tpos) (.Call (.Name "enumerate" p) [e] [] pos) (iEnumA X.K ta) := by
  refine ⟨fun pins s z H R I h => ?_⟩
  refine Call_ (ld_blt I hg hm boot_enumerate (PyProof.Rows.callWith_type1 (thn (ha.run pos pins s z H _ I h) fun us s1 ⟨vs, H1, I1, r1, q1⟩ => ?_) hs rfl))
  obtain ⟨a, xs, ex, q1⟩ := q1
  subst ex
  cases r1 with
  | cons r rr =>
    cases rr
    cases r
    have fresh : ∀ b, b ∈ [s1.heap.objs.size + 1, s1.heap.objs.size] → s1.heap.objs.size ≤ b := fun b hb => by
      rcases List.mem_cons.mp hb with z | z
      · rw [z]; exact Nat.le_add_right _ _
      · rw [List.mem_singleton.mp z]; exact Nat.le_refl _
    rcases q1 with ⟨hq, q⟩ | ⟨hq, q⟩
    · obtain ⟨its, rv, p', hz⟩ := I1.list hq
      refine call_enumerate_list p'.isList fun h' he hit hsz hk => wpAny_pyIter_enum he ?_
      have I2 : Inv X pins z H1 { s1 with heap := h' } := I1.kept (t' := s1.toks) hk
      exact ⟨s1.heap.objs.size + 1, [s1.heap.objs.size + 1, s1.heap.objs.size], _, _, H1, rfl, I2, turn_enum a (s1.heap.objs.size + 1) s1.heap.objs.size, ⟨⟨.none, he⟩, hit, Nat.succ_ne_self _⟩, fun b hb => I1.fpOk (fresh b hb) (I1.hok.fresh (fresh b hb)), q hz⟩
    · obtain ⟨its, rv, p', hz⟩ := I1.tuple hq
      refine call_enum1 (begins_tuple a its.toArray) (show s1.heap.IsTuple a its.toArray from p') fun h' he hit hsz hk => wpAny_pyIter_enum he ?_
      have I2 : Inv X pins z H1 { s1 with heap := h' } := I1.kept (t' := s1.toks) hk
      exact ⟨s1.heap.objs.size + 1, [s1.heap.objs.size + 1, s1.heap.objs.size], _, _, H1, rfl, I2, turn_enumT a (s1.heap.objs.size + 1) s1.heap.objs.size, ⟨⟨.none, he⟩, ⟨_, hit, rfl, rfl⟩, Nat.succ_ne_self _⟩, fun b hb => I1.fpOk (fresh b hb) (I1.hok.fresh (fresh b hb)), q hz⟩
theorem walk_enumT {G : Gx} {M : Mp} {p : Addr} {vs : List V} {xs : List D} (h1 : M.tup p = some vs) (h2 : RelDs G M xs vs) : WalkOk G M (IteT G.K p) (wkS (enumD 0 xs)) := by
  intro i M1 S H le rh _
  have hs : SqT G.K H p vs := .inl (.inl (rh.tup p vs (le.tup p vs h1)))
  refine ⟨fun hi => ?_, fun hi => ⟨vs, hs, by rw [← h2.len]; have hi : (enumD 0 xs).length ≤ i := hi; rw [enumD_len] at hi; exact hi⟩⟩
  have hi : i < (enumD 0 xs).length := hi
  rw [enumD_len] at hi
  obtain ⟨d, hd⟩ : ∃ d, xs[i]? = some d := ⟨xs[i], by simp [hi]⟩
  obtain ⟨v, hv, rv⟩ := h2.get hd
  refine ⟨⟨vs, v, hs, hv⟩, fun x H' y => ?_⟩
  obtain ⟨T, z, rfl, hT, rfl, y⟩ := y
  have := y vs hs
  rw [hv] at this
  cases this
  have rds : RelDs G M1 [.int (i : Nat), d] [.int (i : Nat), v] := RelDs.cons rfl (RelDs.cons (RelD.le le rv) rfl)
  obtain ⟨M2, x1, x2, x3⟩ := Ext.tupNew rh hT rds
  refine ⟨M2, .tup [.int (i : Nat), d], x1, x2, ?_, x3⟩
  show (enumD 0 xs)[i]? = _
  rw [enumD_at, hd]
  simp
section
variable {X : Cx} {W : WX} {tg e a b : Expr} {da db : DE} {pos : Pos}
theorem si_enumA (h : PI X tg e (iEnumA X.K (tCons (tE (gx X) W da) tNil))) : SI X W tg e (iEnumAD da) := by
  refine PI_dimp h ?_
  rintro s H Q ⟨M, r, S, en, rh, p⟩
  refine ⟨M, r, S, en, rh, p.bind.imp fun v H1 h => ?_⟩
  obtain ⟨M1, x, S1, e1, rh1, rd1, p1⟩ := h
  have go : ∀ {w : Wk}, wkL S1 x = some w → Post (gx X) (RW (gx X)) W M1 H1 s (.ok ⟨enumD 0 w.xs, w.ok⟩ S1) Q → ∃ a xs, [v] = [.ref a] ∧ ((SqL X.K H1 a xs ∧ (xs.length ≤ sizeLine → Q (Ite X.K a) H1)) ∨ (SqT X.K H1 a xs ∧ (xs.length ≤ sizeLine → Q (IteT X.K a) H1))) := fun {w} hw p1 => by
    obtain ⟨q, vs, rfl, h1, h2, h3⟩ := lst_at rh1 rd1 hw
    exact ⟨q, vs, rfl, .inl ⟨h2, fun hz => p1 M1 _ H1 Ext.refl rh1 ⟨walk_enum h1, by show (enumD 0 w.xs).length ≤ sizeLine; rw [enumD_len, h3.len]; exact hz⟩⟩⟩
  cases x with
  | tup xs =>
    obtain ⟨q, vs, rfl, h1, h2⟩ := rd1
    have h3 : SqT X.K H1 q vs := .inl (.inl (rh1.tup q vs h1))
    exact ⟨q, vs, rfl, .inr ⟨h3, fun hz => p1 M1 _ H1 Ext.refl rh1 ⟨walk_enumT h1 h2, by show (enumD 0 xs).length ≤ sizeLine; rw [enumD_len, h2.len]; exact hz⟩⟩⟩
  | lst xs => exact go rfl p1
  | ref l =>
    cases q : wkOf S1 (.ref l) with
    | none => rw [q] at p1; exact p1.elim
    | some w => rw [q] at p1; exact go q p1
  | _ => exact p1.elim
end
/-! ### zip -/
theorem zipD_at : ∀ (xs ys : List D) (i : Nat), (zipD xs ys)[i]? = (xs[i]?).bind fun x => (ys[i]?).map fun y => .tup [x, y]
  | [], ys, i => by cases ys <;> simp [zipD]
  | x :: xs, [], i => by cases i <;> simp [zipD]
  | x :: xs, y :: ys, 0 => by simp [zipD]
  | x :: xs, y :: ys, i + 1 => by
    simp only [zipD, List.getElem?_cons_succ]
    exact zipD_at xs ys i
theorem zipD_len : ∀ (xs ys : List D), (zipD xs ys).length = min xs.length ys.length
  | [], ys => by simp [zipD]
  | x :: xs, [] => by simp [zipD]
  | x :: xs, y :: ys => by simp [zipD, zipD_len xs ys]
theorem walk_zip {G : Gx} {M : Mp} {p q : Addr} {w1 w2 : Wk} (hl : LstAt G M w1 p) (hr : LstAt G M w2 q) : WalkOk G M (Itz G.K p q) ⟨zipD w1.xs w2.xs, fun S => w1.ok S ∧ w2.ok S⟩ := by
  intro i M1 S H le rh hk
  obtain ⟨vs, hs, h2⟩ := hl M1 S H le rh hk.1
  obtain ⟨us, ht, h3⟩ := hr M1 S H le rh hk.2
  refine ⟨fun hi => ?_, fun hi => ⟨vs, us, hs, ht, by rw [← h2.len, ← h3.len]; have hi : (zipD w1.xs w2.xs).length ≤ i := hi; rw [zipD_len] at hi; omega⟩⟩
  have hi : i < (zipD w1.xs w2.xs).length := hi
  rw [zipD_len] at hi
  obtain ⟨d, hd⟩ : ∃ d, w1.xs[i]? = some d := ⟨w1.xs[i]'(by omega), List.getElem?_eq_getElem _⟩
  obtain ⟨d2, hd2⟩ : ∃ d, w2.xs[i]? = some d := ⟨w2.xs[i]'(by omega), List.getElem?_eq_getElem _⟩
  obtain ⟨v, hv, rv⟩ := h2.get hd
  obtain ⟨u, hu, ru⟩ := h3.get hd2
  refine ⟨⟨vs, us, v, u, hs, ht, hv, hu⟩, fun x H' y => ?_⟩
  obtain ⟨T, z, z2, rfl, hT, rfl, y1, y2⟩ := y
  have e1 := y1 vs hs
  have e2 := y2 us ht
  rw [hv] at e1
  rw [hu] at e2
  cases e1
  cases e2
  obtain ⟨M2, x1, x2, x3⟩ := Ext.tupNew rh hT (RelDs.cons rv (RelDs.cons ru RelDs.nil))
  refine ⟨M2, .tup [d, d2], x1, x2, ?_, x3⟩
  show (zipD w1.xs w2.xs)[i]? = _
  rw [zipD_at, hd, hd2]
  rfl
theorem tup_sq {G : Gx} {M M1 : Mp} {S : Store} {H : Hp} {p : Addr} {vs : List V} (h : M.tup p = some vs) (le : Le M M1) (rh : RelH G M1 S H) : SqT G.K H p vs := .inl (.inl (rh.tup p vs (le.tup p vs h)))
theorem walk_zipT {G : Gx} {M : Mp} {p q : Addr} {vs us : List V} {xs ys : List D} (h1 : M.tup p = some vs) (h2 : RelDs G M xs vs) (h3 : M.tup q = some us) (h4 : RelDs G M ys us) : WalkOk G M (RZ.ItzT G.K p q) (wkS (zipD xs ys)) := by
  intro i M1 S H le rh hk
  have hs := tup_sq h1 le rh
  have ht := tup_sq h3 le rh
  refine ⟨fun hi => ?_, fun hi => ⟨vs, us, hs, ht, by rw [← h2.len, ← h4.len]; have hi : (zipD xs ys).length ≤ i := hi; rw [zipD_len] at hi; omega⟩⟩
  have hi : i < (zipD xs ys).length := hi
  rw [zipD_len] at hi
  obtain ⟨d, hd⟩ : ∃ d, xs[i]? = some d := ⟨xs[i]'(by omega), List.getElem?_eq_getElem _⟩
  obtain ⟨d2, hd2⟩ : ∃ d, ys[i]? = some d := ⟨ys[i]'(by omega), List.getElem?_eq_getElem _⟩
  obtain ⟨v, hv, rv⟩ := h2.get hd
  obtain ⟨u, hu, ru⟩ := h4.get hd2
  refine ⟨⟨vs, us, v, u, hs, ht, hv, hu⟩, fun x H' y => ?_⟩
  obtain ⟨T, z, z2, rfl, hT, rfl, y1, y2⟩ := y
  have e1 := y1 vs hs
  have e2 := y2 us ht
  rw [hv] at e1
  rw [hu] at e2
  cases e1
  cases e2
  obtain ⟨M2, x1, x2, x3⟩ := Ext.tupNew rh hT (RelDs.cons (RelD.le le rv) (RelDs.cons (RelD.le le ru) RelDs.nil))
  refine ⟨M2, .tup [d, d2], x1, x2, ?_, x3⟩
  show (zipD xs ys)[i]? = _
  rw [zipD_at, hd, hd2]
  rfl
section
variable {X : Cx} {W : WX} {tg e a b : Expr} {da db : DE} {pos pos' : Pos}
theorem si_zip (h : PI X tg e (RZ.iZipA X.K (tCons (tE (gx X) W da) (tCons (tE (gx X) W db) tNil)))) : SI X W tg e (iZipD da db) := by
  refine PI_dimp h ?_
  rintro s H Q ⟨M, r, S, en, rh, p⟩
  refine ⟨M, r, S, en, rh, (bind2 en p).imp fun v H1 h => ?_⟩
  obtain ⟨M1, S1, e1, rh1, en1, p1⟩ := h
  refine ⟨M1, r, S1, en1, rh1, p1.imp fun u H2 h => ?_⟩
  obtain ⟨M2, x, y, S2, e2, rh2, en2, rd1, rd2, p2⟩ := h
  have lists : ∀ {w1 w2 : Wk}, wkL S2 x = some w1 → wkL S2 y = some w2 → (zipD w1.xs w2.xs).length ≤ sizeLine → Post (gx X) (RW (gx X)) W M2 H2 s (.ok ⟨zipD w1.xs w2.xs, fun S => w1.ok S ∧ w2.ok S⟩ S2) Q →
      ∃ a b xs ys, [v, u] = [V.ref a, V.ref b] ∧ ((SqL X.K H2 a xs ∧ SqL X.K H2 b ys ∧ Q (Itz X.K a b) H2) ∨ (SqT X.K H2 a xs ∧ SqT X.K H2 b ys ∧ Q (RZ.ItzT X.K a b) H2)) := fun {w1 w2} h1 h2 hz p => by
    obtain ⟨q1, vs, rfl, k1, k2, k3⟩ := lst_at rh2 rd1 h1
    obtain ⟨q2, us, rfl, l1, l2, l3⟩ := lst_at rh2 rd2 h2
    exact ⟨q1, q2, vs, us, rfl, .inl ⟨k2, l2, p M2 _ H2 Ext.refl rh2 ⟨walk_zip k1 l1, hz⟩⟩⟩
  have gen : (wkL S2 x).bind (fun w => (wkL S2 y).map fun v => (⟨zipD w.xs v.xs, fun S => w.ok S ∧ v.ok S⟩ : Wk)) = wkZ S2 x y → 
      ∃ a b xs ys, [v, u] = [V.ref a, V.ref b] ∧ ((SqL X.K H2 a xs ∧ SqL X.K H2 b ys ∧ Q (Itz X.K a b) H2) ∨ (SqT X.K H2 a xs ∧ SqT X.K H2 b ys ∧ Q (RZ.ItzT X.K a b) H2)) := fun e => by
    rw [← e] at p2
    cases h1 : wkL S2 x with
    | none => rw [h1] at p2; exact p2.elim
    | some w1 =>
      cases h2 : wkL S2 y with
      | none => rw [h1, h2] at p2; exact p2.elim
      | some w2 =>
        rw [h1, h2] at p2
        dsimp only [Option.bind_some, Option.map_some] at p2
        split at p2
        · rename_i hz
          exact lists h1 h2 hz p2
        · exact p2.elim
  cases x with
  | tup xs =>
    cases y with
    | tup ys =>
      dsimp only [wkZ] at p2
      split at p2
      · rename_i hz
        obtain ⟨q1, vs, rfl, h1, h2⟩ := rd1
        obtain ⟨q2, us, rfl, h3, h4⟩ := rd2
        exact ⟨q1, q2, vs, us, rfl, .inr ⟨tup_sq h1 Le.refl rh2, tup_sq h3 Le.refl rh2, p2 M2 _ H2 Ext.refl rh2 ⟨walk_zipT h1 h2 h3 h4, hz⟩⟩⟩
      · exact p2.elim
    | _ => exact gen rfl
  | _ => exact gen rfl
/-! ### is True, is False -/
def rIsBl : R2 := fun x y H Q => ∃ a b, x = .bl a ∧ y = .bl b ∧ Q (.bl (decide (a = b))) H
def rNotBl : R2 := fun x y H Q => ∃ a b, x = .bl a ∧ y = .bl b ∧ Q (.bl (!decide (a = b))) H
theorem isB_t {G : Gx} {b : Bool} {s : L2.St} {H : Hp} {Q : VK} (h : tE G W (eCmp1 (cmpIsT b) da) s H Q) : tOp rIsBl (tE G W da) (tC (.bl b)) s H Q := by
  obtain ⟨M, r, S, en, rh, p⟩ := h
  refine ⟨M, r, S, en, rh, (Post.bind (R := RD G) p).imp fun v H1 h => ?_⟩
  obtain ⟨M1, x, S1, e1, rh1, rd1, p1⟩ := h
  cases x with
  | bl c =>
    cases (show _ = _ from rd1)
    exact ⟨c, b, rfl, rfl, p1 M1 _ H1 Ext.refl rh1 (by show _ = V.bl (c == b); cases c <;> cases b <;> rfl)⟩
  | _ => exact p1.elim
theorem notB_t {G : Gx} {b : Bool} {s : L2.St} {H : Hp} {Q : VK} (h : tE G W (eCmp1 (fun x => (cmpIsT b x).map (!·)) da) s H Q) : tOp rNotBl (tE G W da) (tC (.bl b)) s H Q := by
  obtain ⟨M, r, S, en, rh, p⟩ := h
  refine ⟨M, r, S, en, rh, (Post.bind (R := RD G) p).imp fun v H1 h => ?_⟩
  obtain ⟨M1, x, S1, e1, rh1, rd1, p1⟩ := h
  cases x with
  | bl c =>
    cases (show _ = _ from rd1)
    exact ⟨c, b, rfl, rfl, p1 M1 _ H1 Ext.refl rh1 (by show _ = V.bl (!(c == b)); cases c <;> cases b <;> rfl)⟩
  | _ => exact p1.elim
theorem se_isB {b : Bool} {j} (ha : SE X W a da) : SE X W (.Compare a [.Is] [.Constant (.bool b) j pos'] pos) (eCmp1 (cmpIsT b) da) := (pe_cmpR (r := rIsBl) op_is_bl ha pe_bl (nomark _)).dimp fun _ _ _ => isB_t
theorem se_notB {b : Bool} {j} (ha : SE X W a da) : SE X W (.Compare a [.IsNot] [.Constant (.bool b) j pos'] pos) (eCmp1 (fun x => (cmpIsT b x).map (!·)) da) := (pe_cmpR (r := rNotBl) op_isnot_bl ha pe_bl (nomark _)).dimp fun _ _ _ => notB_t
theorem st_isB {b : Bool} {j} (ha : SE X W a da) : ST X W (.Compare a [.Is] [.Constant (.bool b) j pos'] pos) (tOfB (eCmp1 (cmpIsT b) da)) := (pt_cmpR (r := rIsBl) op_is_bl ha pe_bl (nomark _)).dimp fun _ _ _ h => isB_t (tofb_t h)
theorem st_notB {b : Bool} {j} (ha : SE X W a da) : ST X W (.Compare a [.IsNot] [.Constant (.bool b) j pos'] pos) (tOfB (eCmp1 (fun x => (cmpIsT b x).map (!·)) da)) := (pt_cmpR (r := rNotBl) op_isnot_bl ha pe_bl (nomark _)).dimp fun _ _ _ h => notB_t (tofb_t h)
end
end Dn

end
section
set_option Elab.async false
set_option linter.all false
set_option maxRecDepth 100000
set_option maxHeartbeats 4000000
/-! Further small rules: range with a step. -/
namespace Dn
open PySem PySem.Spec PyProof.Rows L2 LamX
def rangeC (lo c : Int) (n : Nat) : List D := (List.range n).map fun (k : Nat) => D.int (lo + (k : Int) * c)
@[irreducible] def rg3 (i j k : Int) : Option Wk := if decide (k ≠ 0) && decide (k.natAbs < 1073741824) && Builtin.Range.small i j k && decide (0 ≤ Builtin.Range.rangeSize i j k) && decide ((Builtin.Range.rangeSize i j k).toNat ≤ sizeLine) then some (wkS (rangeC i k (Builtin.Range.rangeSize i j k).toNat)) else none
def iRange3 (a b c : DE) : DI := fun r S => (a r S).bind fun x S => (b r S).bind fun y S => (c r S).bind fun z S => match x, y, z with
  | .int i, .int j, .int k => Rs.ofO (rg3 i j k) S
  | _, _, _ => .bad
variable [Tb]
section
variable {X : Cx} {W : WX} {tg e : Expr} {da db dc : DE}
theorem bind3 {a b : Type} {G : Gx} {M : Mp} {r : Rho} {S : Store} {H : Hp} {s : L2.St} {R : Mp → Hp → a → b → Prop} {f : D → D → D → Store → Rs a} {Q : b → Hp → Prop} (en : EnvR G M H r s)
    (p : Post G R W M H s ((da r S).bind fun x S => (db r S).bind fun y S => (dc r S).bind fun z S => f x y z S) Q) :
    Post G (RD G) W M H s (da r S) fun v H1 => ∃ M1 S1, Ext M H M1 H1 ∧ RelH G M1 S1 H1 ∧ EnvR G M1 H1 r s ∧ Post G (RD G) W M1 H1 s (db r S1) fun u H2 => ∃ M2 S2, Ext M1 H1 M2 H2 ∧ RelH G M2 S2 H2 ∧ EnvR G M2 H2 r s ∧
      Post G (RD G) W M2 H2 s (dc r S2) fun w H3 => ∃ M3 x y z S3, Ext M2 H2 M3 H3 ∧ RelH G M3 S3 H3 ∧ EnvR G M3 H3 r s ∧ RelD G M3 x v ∧ RelD G M3 y u ∧ RelD G M3 z w ∧ Post G R W M3 H3 s (f x y z S3) Q := by
  refine p.bind.imp fun v H1 h => ?_
  obtain ⟨M1, x, S1, e1, rh1, rd1, p1⟩ := h
  refine ⟨M1, S1, e1, rh1, en.mono e1, p1.bind.imp fun u H2 h => ?_⟩
  obtain ⟨M2, y, S2, e2, rh2, rd2, p2⟩ := h
  refine ⟨M2, S2, e2, rh2, (en.mono e1).mono e2, p2.bind.imp fun w H3 h => ?_⟩
  obtain ⟨M3, z, S3, e3, rh3, rd3, p3⟩ := h
  exact ⟨M3, x, y, z, S3, e3, rh3, ((en.mono e1).mono e2).mono e3, (rd1.mono e2).mono e3, rd2.mono e3, rd3, p3⟩
theorem walk_rangeC {G : Gx} {M : Mp} (lo c : Int) (n : Nat) : WalkOk G M (Itc lo c n) (wkS (rangeC lo c n)) := by
  intro i M1 S H le rh _
  have hl : (wkS (rangeC lo c n)).xs.length = n := by simp [rangeC, wkS]
  refine ⟨fun h => ?_, fun h => by show n ≤ i; omega⟩
  refine ⟨by show i < n; omega, fun x H' y => ?_⟩
  obtain ⟨rfl, rfl⟩ := y
  refine ⟨M1, .int (lo + (i : Nat) * c), Ext.refl, rh, ?_, rfl⟩
  rw [hl] at h
  simp [rangeC, wkS, h]
theorem si_range3 (h : PI X tg e (iRng3 (tCons (tE (gx X) W da) (tCons (tE (gx X) W db) (tCons (tE (gx X) W dc) tNil))))) : SI X W tg e (iRange3 da db dc) := by
  refine PI_dimp h ?_
  rintro s H Q ⟨M, r, S, en, rh, p⟩
  refine ⟨M, r, S, en, rh, (bind3 en p).imp fun v H1 h => ?_⟩
  obtain ⟨M1, S1, e1, rh1, en1, p1⟩ := h
  refine ⟨M1, r, S1, en1, rh1, p1.imp fun u H2 h => ?_⟩
  obtain ⟨M2, S2, e2, rh2, en2, p2⟩ := h
  refine ⟨M2, r, S2, en2, rh2, p2.imp fun w H3 h => ?_⟩
  obtain ⟨M3, x, y, z, S3, e3, rh3, en3, rd1, rd2, rd3, p3⟩ := h
  split at p3
  · rename_i i j k
    cases (show _ = _ from rd1)
    cases (show _ = _ from rd2)
    cases (show _ = _ from rd3)
    unfold rg3 at p3
    split at p3
    · rename_i hc
      simp only [Bool.and_eq_true, decide_eq_true_eq] at hc
      obtain ⟨⟨⟨⟨h1, h2⟩, h3⟩, h4⟩, h5⟩ := hc
      exact ⟨i, j, k, _, rfl, ⟨h1, h2, h3, by omega⟩, p3 M3 _ H3 Ext.refl rh3 ⟨walk_rangeC i k _, by simp only [wkS, rangeC, List.length_map, List.length_range]; exact h5⟩⟩
    · exact p3.elim
  · exact p3.elim
end
end Dn

end
section
set_option Elab.async false
set_option linter.all false
set_option maxRecDepth 100000
set_option maxHeartbeats 4000000
/-! (.., xs[k]) = a, b -/
namespace Dn
open PySem PySem.Spec PyProof.Rows L2 LamX
def putAt (i : Nat) (dk : DE) (y : D) : DS := fun r S => match r[i]? with
  | some (.own _) => (dk r S).toS r fun n S => (match n, r[i]? with
    | .int j, some (.own xs) => (match place xs.length j with
      | some m => .next (r.set i (.own (xs.set m y))) S
      | none => .bad)
    | _, _ => .bad)
  | _ => .bad
def sAsgPut (da db : DE) (g : DG) (i : Nat) (dk : DE) : DS := fun r S => (da r S).toS r fun x S => (db r S).toS r fun y S => match g x r S with
  | some r' => putAt i dk y r' S
  | none => .bad
variable [Tb]
section
variable {X : Cx} {M0 : Mp} {H0 : Hp} {W : WX} {tg e : Expr} {da db dk : DE} {pos : Pos} {i : Nat} {is : List Nat} {g1 : TG} {d1 : DG}
theorem ss_asgPut (la : LamAt (gx X) H0) (he : SE X W e (eTup (aCons da (aCons db aNil)))) (hg : PG X tg (gTup X.K 2 (gCons g1 (gCons (gSub (tVar i) (tE (gx X) W dk) rSetL) gNil)))) (k : GOk (gx X) is g1 d1)
    (hs : swapsWithSole [tg] e pos.line X.env = pure false := by rfl) (hw : swappedStores [tg] e X.env = pure none := by rfl) (h1 : (assignEach [tg] X.env).map (·.2) = [assign tg X.env] := by rfl) : SS X M0 H0 W (.Assign [tg] e pos) (sAsgPut da db d1 i dk) := by
  refine (ps_asg he hg hs hw h1).dimp ?_
  rintro D s H ⟨M, r, S, w, p⟩
  have p : PostS (gx X) M0 H0 W M (((eTup (aCons da (aCons db aNil))) r S).toS r fun v S => match v with
      | .tup [x, y] => (match d1 x r S with
        | some r' => putAt i dk y r' S
        | none => .bad)
      | _ => .bad) D := by
    unfold sAsgPut at p
    unfold eTup aCons aNil
    cases q1 : da r S with
    | ok x S1 =>
      rw [q1] at p
      simp only [Rs.toS_ok] at p
      simp only [Rs.bind_ok]
      cases q2 : db r S1 with
      | ok y S2 =>
        rw [q2] at p
        simp only [Rs.toS_ok] at p
        have hz : 2 ≤ sizeLine := by rw [sizeLine_eq]; omega
        simpa [hz] using p
      | exc c fs S2 => rw [q2] at p; simpa using p
      | bad => rw [q2] at p; simpa using p
    | exc c fs S1 => rw [q1] at p; simpa using p
    | bad => rw [q1] at p; simpa using p
  refine ⟨M, r, S, w.env, w.heap, (PostS.toS (R := RD (gx X)) w p).imp fun v H1 h => ?_⟩
  obtain ⟨M1, d, S1, w1, e1, rv, p1⟩ := h
  split at p1
  · rename_i x y
    obtain ⟨pa, vs, rfl, q1, q2⟩ := tup_ok w1.heap rv
    obtain ⟨v1, r1, rfl, rx, rr⟩ := q2
    obtain ⟨v2, r2, rfl, ry, rn⟩ := rr
    cases (show _ = _ from rn)
    refine ⟨pa, [v1, v2], rfl, q1, rfl, v1, [v2], rfl, ?_⟩
    cases q : d1 x r S1 with
    | none => rw [q] at p1; exact p1.elim
    | some r' =>
      rw [q] at p1
      dsimp only at p1
      refine k M1 H1 r r' s S1 x v1 _ w1.env.len w1.heap rx q fun s2 u => ?_
      have w2 := w1.upd u
      refine ⟨v2, [], rfl, ?_⟩
      unfold putAt at p1
      cases q3 : r'[i]? with
      | none => rw [q3] at p1; exact p1.elim
      | some z =>
        rw [q3] at p1
        cases z with
        | own xs =>
          dsimp only at p1
          obtain ⟨u', f1, a, vs, rfl, f2, f3, f4, f5⟩ := w2.env.sl i _ q3
          refine ⟨.ref a, f1, M1, r', S1, w2.env, w2.heap, (PostS.toS (R := RD (gx X)) w2 p1).imp fun z2 H3 h => ?_⟩
          obtain ⟨M3, n, S3, w3, e3, rn, p3⟩ := h
          split at p3
          · rename_i j xs' hj
            cases hj
            cases (show _ = _ from rn)
            obtain ⟨u3, g1', a', vs', g2, g3, g4, g5, g6⟩ := w3.env.sl i _ q3
            rw [f1] at g1'; cases g1'; cases g2
            split at p3
            · rename_i m hm
              exact ⟨a, vs', j, m, rfl, rfl, g3, by rw [← g4.len]; exact hm, rfl, p3 M3 s2 _ (w3.ownPut la q3 f1 g3 (g4.set m (RelD.mono e3 ry))) Le.refl⟩
            · exact p3.elim
          · exact p3.elim
        | un => exact p1.elim
        | val _ => exact p1.elim
        | ownd _ _ => exact p1.elim
        | exc _ _ => exact p1.elim
        | lam => exact p1.elim
  · exact p1.elim
end
end Dn

end
section
set_option Elab.async false
set_option linter.all false
set_option maxRecDepth 100000
set_option maxHeartbeats 4000000
/-! a, b = x, y and a, b, c = x, y, z: values and new lists of one's own. -/
namespace Dn
open PySem PySem.Spec PyProof.Rows L2 LamX
/-- what is stored: a value, a new list of its own -/
inductive Itm where
  | v (d : DE) | o (d : DA)
def itemsD : List Itm → Rho → Store → Rs (List Sl)
  | [], _, S => .ok [] S
  | .v d :: l, r, S => (d r S).bind fun x S => (itemsD l r S).bind fun xs S => .ok (.val x :: xs) S
  | .o d :: l, r, S => (d r S).bind fun x S => (itemsD l r S).bind fun xs S => .ok (.own x :: xs) S
def putAll : List Nat → List Sl → Rho → Option Rho
  | [], [], r => some r
  | i :: is, x :: xs, r => if i < r.length then putAll is xs (r.set i x) else none
  | _, _, _ => none
def sParG (is : List Nat) (l : List Itm) : DS := fun r S => (itemsD l r S).toS r fun xs S => match putAll is xs r with
  | some r' => .next r' S
  | none => .bad
variable [Tb]
/-- how an item lies; p0: what must not stand there -/
def ItR (G : Gx) (H0 : Hp) (M : Mp) (H : Hp) : Sl → V → Prop
  | .val d, v => RelD G M d v
  | .own ds, v => RN G H0 M H ds v
  | _, _ => False
def ItRs (G : Gx) (H0 : Hp) (M : Mp) (H : Hp) : List Sl → List V → Prop
  | [], vs => vs = []
  | x :: xs, vs => ∃ v r, vs = v :: r ∧ ItR G H0 M H x v ∧ ItRs G H0 M H xs r ∧ ∀ ys p, x = .own ys → v = .ref p → ∀ (j : Nat) (zs : List D), xs[j]? = some (.own zs) → r[j]? ≠ some (.ref p)
section
variable {G : Gx} {M0 M M1 : Mp} {H0 H H1 : Hp} {r : Rho} {S : Store} {s : L2.St}
theorem RN.fwd {Hs H H' : Hp} {M M' : Mp} {ds : List D} {v : V} (e : Ext M H M' H') (h : RN G Hs M H ds v) : RN G Hs M' H' ds v := by
  obtain ⟨p, vs, rfl, h1, h2, h3, h4, h5⟩ := h
  refine ⟨p, vs, rfl, e.keep p _ h1 h3 (fun _ z => by cases z), h2.mono e, fun l q => ?_, ?_, h5⟩
  · rcases e.new l p q with z | z
    · exact h3 l z
    · rw [h1] at z; cases z
  · cases q : M'.lst p with
    | none => rfl
    | some x =>
      rcases e.newl p x q with z | z
      · rw [h4] at z; cases z
      · rw [h1] at z; cases z
theorem RN.back {Hs Ht H : Hp} {M : Mp} {ds : List D} {v : V} (h : RN G Ht M H ds v) (k : ∀ p, Ht p = none → Hs p = none) : RN G Hs M H ds v := by
  obtain ⟨p, vs, rfl, h1, h2, h3, h4, h5⟩ := h
  exact ⟨p, vs, rfl, h1, h2, h3, h4, k p h5⟩
theorem none_back {M M' : Mp} {H H' : Hp} (e : Ext M H M' H') {p : Addr} (h : H' p = none) : H p = none := by
  cases q : H p with
  | none => rfl
  | some o =>
    obtain ⟨o', h'⟩ := e.there p o q
    rw [h] at h'; cases h'
theorem ItR.fwd {Hs H H' : Hp} {M M' : Mp} {x : Sl} {v : V} (e : Ext M H M' H') (h : ItR G Hs M H x v) : ItR G Hs M' H' x v := by
  cases x with
  | val d => exact RelD.mono e h
  | own ds => exact RN.fwd e h
  | _ => exact h
theorem ItRs.back {Hs Ht H : Hp} {M : Mp} : ∀ {xs : List Sl} {vs : List V}, ItRs G Ht M H xs vs → (∀ p, Ht p = none → Hs p = none) → ItRs G Hs M H xs vs
  | [], _, h, _ => h
  | x :: xs, _, h, k => by
    obtain ⟨v, r, rfl, h1, h2, h3⟩ := h
    refine ⟨v, r, rfl, ?_, ItRs.back h2 k, h3⟩
    cases x with
    | own ds => exact RN.back h1 k
    | _ => exact h1
/-- an own one of them did not stand at Ht -/
theorem ItRs.fresh {Ht H : Hp} {M : Mp} : ∀ {xs : List Sl} {vs : List V}, ItRs G Ht M H xs vs → ∀ (j : Nat) (zs : List D) (p : Addr), xs[j]? = some (.own zs) → vs[j]? = some (.ref p) → Ht p = none
  | [], _, h, j, zs, p, q, _ => by simp at q
  | x :: xs, _, h, j, zs, p, q, q2 => by
    obtain ⟨v, r, rfl, h1, h2, h3⟩ := h
    cases j with
    | zero =>
      simp at q q2
      subst q q2
      obtain ⟨a, vs, e, _, _, _, _, h5⟩ := h1
      cases e
      exact h5
    | succ j => exact ItRs.fresh h2 j zs p (by simpa using q) (by simpa using q2)
/-- the readings of the items -/
inductive SItm (X : Cx) (W : WX) : Expr → Itm → Prop
  | v {e : Expr} {d : DE} (h : SE X W e d) : SItm X W e (.v d)
  | o {e : Expr} {d : DA} (h : SN X W e d) : SItm X W e (.o d)
inductive SItms (X : Cx) (W : WX) : List Expr → List Itm → Prop
  | nil : SItms X W [] []
  | cons {e : Expr} {es : List Expr} {t : Itm} {l : List Itm} (h : SItm X W e t) (r : SItms X W es l) (hs : starEach (e :: es) X.env = (false, eval e X.env) :: starEach es X.env := by rfl) : SItms X W (e :: es) (t :: l)
def tItms (G : Gx) (W : WX) (l : List Itm) : TA := fun s H Q => ∃ M r S, EnvR G M H r s ∧ RelH G M S H ∧ Post G (ItRs G H) W M H s (itemsD l r S) Q
theorem pa_items {X : Cx} {W : WX} {es : List Expr} {l : List Itm} (h : SItms X W es l) : PA X es (tItms (gx X) W l) := by
  induction h with
  | nil =>
    refine pa_nil.dimp ?_
    rintro s H Q ⟨M, r, S, en, rh, p⟩
    exact p M [] H Ext.refl rh rfl
  | @cons e es t l h _ hst ih =>
    cases h with
    | v h =>
      refine (pa_cons h ih hst).dimp ?_
      rintro s H Q ⟨M, r, S, en, rh, p⟩
      unfold itemsD at p
      refine ⟨M, r, S, en, rh, (Post.bind (R := RD (gx X)) p).imp fun v H1 h => ?_⟩
      obtain ⟨M1, x, S1, e1, rh1, rd1, p1⟩ := h
      refine ⟨M1, r, S1, en.mono e1, rh1, (Post.bind (R := ItRs (gx X) H1) p1).imp fun vs H2 h => ?_⟩
      obtain ⟨M2, xs, S2, e2, rh2, rd2, p2⟩ := h
      exact p2 M2 _ H2 Ext.refl rh2 ⟨v, vs, rfl, RelD.mono e2 rd1, rd2.back fun p hp => none_back e1 hp, fun ys p z => by cases z⟩
    | o h =>
      refine (pa_cons h ih hst).dimp ?_
      rintro s H Q ⟨M, r, S, en, rh, p⟩
      unfold itemsD at p
      refine ⟨M, r, S, en, rh, (Post.bind (R := RN (gx X) H) p).imp fun v H1 h => ?_⟩
      obtain ⟨M1, x, S1, e1, rh1, rd1, p1⟩ := h
      refine ⟨M1, r, S1, en.mono e1, rh1, (Post.bind (R := ItRs (gx X) H1) p1).imp fun vs H2 h => ?_⟩
      obtain ⟨M2, xs, S2, e2, rh2, rd2, p2⟩ := h
      refine p2 M2 _ H2 Ext.refl rh2 ⟨v, vs, rfl, RN.fwd e2 rd1, rd2.back fun p hp => none_back e1 hp, fun ys p _ ev j zs q1 q2 => ?_⟩
      have := rd2.fresh j zs p q1 q2
      obtain ⟨a, us, ea, h1, _⟩ := rd1
      rw [ev] at ea
      cases ea
      rw [h1] at this
      cases this
/-- one item stored -/
theorem Wst.setItem {i : Nat} {x : Sl} {v : V} {Hs : Hp} (w : Wst G M0 H0 M r S s H) (h : ItR G Hs M H x v) (hs : ∀ p, Hs p = none → H0 p = none) (ap : ∀ ys p, x = .own ys → v = .ref p → ∀ (j : Nat) (zs : List D), r[j]? = some (.own zs) → s[j]? ≠ some (some (.ref p))) (hi : i < r.length) : Wst G M0 H0 M (r.set i x) S (s.set i (some v)) H := by
  cases x with
  | val d => exact w.upd (Upd.set w.env.len hi h)
  | own xs =>
    obtain ⟨p, vs, rfl, h1, h2, h3, h4, h5⟩ := h
    have hl := w.env.len
    have apart : ∀ (j : Nat) (ys : List D) (a : Addr), r[j]? = some (.own ys) → s[j]? = some (some (.ref a)) → a ≠ p := fun j ys a q1 q2 z => ap xs p rfl rfl j ys q1 (by rw [q2, z])
    refine ⟨⟨by rw [List.length_set, List.length_set]; exact hl, fun j x q => ?_, fun j k xs' ys' a q1 q2 q3 q4 => ?_⟩, w.heap, w.ext, fun j xs' a q1 q2 => ?_⟩
    · by_cases e : j = i
      · subst e
        rw [List.getElem?_set_self hi] at q
        cases q
        exact ⟨_, List.getElem?_set_self (by omega), p, vs, rfl, h1, h2, h3, h4⟩
      · rw [List.getElem?_set_ne (Ne.symm e)] at q ⊢
        exact w.env.sl j x q
    · by_cases e : j = i <;> by_cases e2 : k = i
      · rw [e, e2]
      · subst e
        rw [List.getElem?_set_self (by omega)] at q3
        cases q3
        rw [List.getElem?_set_ne (Ne.symm e2)] at q2 q4
        exact absurd rfl (apart k _ _ q2 q4)
      · subst e2
        rw [List.getElem?_set_self (by omega)] at q4
        cases q4
        rw [List.getElem?_set_ne (Ne.symm e)] at q1 q3
        exact absurd rfl (apart j _ _ q1 q3)
      · rw [List.getElem?_set_ne (Ne.symm e)] at q1 q3
        rw [List.getElem?_set_ne (Ne.symm e2)] at q2 q4
        exact w.env.apt j k _ _ a q1 q2 q3 q4
    · by_cases e : j = i
      · subst e
        rw [List.getElem?_set_self (by omega)] at q2
        cases q2
        exact hs p h5
      · rw [List.getElem?_set_ne (Ne.symm e)] at q1 q2
        exact w.own j _ a q1 q2
  | un => exact h.elim
  | ownd _ _ => exact h.elim
  | exc _ _ => exact h.elim
  | lam => exact h.elim
/-- all of them stored -/
theorem put_all {Hs : Hp} (hs : ∀ p, Hs p = none → H0 p = none) : ∀ (is : List Nat) (xs : List Sl) (vs : List V) (r r' : Rho) (s : L2.St), Wst G M0 H0 M r S s H → ItRs G Hs M H xs vs → (∀ (k : Nat) (ys : List D) (p : Addr), xs[k]? = some (.own ys) → vs[k]? = some (.ref p) → ∀ (j : Nat) (zs : List D), r[j]? = some (.own zs) → s[j]? ≠ some (some (.ref p))) →
    putAll is xs r = some r' → Wst G M0 H0 M r' S ((is.zip vs).foldl (fun s z => s.set z.1 (some z.2)) s) H ∧ vs.length = is.length
  | [], [], vs, r, r', s, w, ir, ap, e => by
    cases (show _ = [] from ir)
    cases e
    exact ⟨w, rfl⟩
  | [], _ :: _, _, _, _, _, _, _, _, e => by cases e
  | _ :: _, [], _, _, _, _, _, _, _, e => by cases e
  | i :: is, x :: xs, _, r, r', s, w, ir, ap, e => by
    obtain ⟨v, vs, rfl, h1, h2, h3⟩ := ir
    unfold putAll at e
    split at e
    · rename_i hi
      have w1 := w.setItem h1 hs (fun ys p e1 e2 j zs q => ap 0 ys p (by rw [e1]; rfl) (by rw [e2]; rfl) j zs q) hi
      have hl := w.env.len
      have := put_all hs is xs vs (r.set i x) r' (s.set i (some v)) w1 h2 (fun k ys p q1 q2 j zs q3 q4 => by
        by_cases ej : j = i
        · subst ej
          rw [List.getElem?_set_self hi] at q3
          cases q3
          rw [List.getElem?_set_self (by omega)] at q4
          cases q4
          exact h3 zs p rfl rfl k ys q1 q2
        · rw [List.getElem?_set_ne (Ne.symm ej)] at q3 q4
          exact ap (k + 1) ys p (by simpa using q1) (by simpa using q2) j zs q3 q4) e
      exact ⟨by simpa using this.1, by simpa using this.2⟩
    · cases e
theorem own_not {Hs : Hp} {M' : Mp} {S' : Store} {H' : Hp} {xs : List Sl} {vs : List V} (w : Wst G M0 H0 M r S s Hs) (ir : ItRs G Hs M' H' xs vs) (k : Nat) (ys : List D) (p : Addr) (q1 : xs[k]? = some (.own ys)) (q2 : vs[k]? = some (.ref p)) (j : Nat) (zs : List D) (q3 : r[j]? = some (.own zs)) : s[j]? ≠ some (some (.ref p)) := fun q4 => by
  have := ir.fresh k ys p q1 q2
  obtain ⟨v, k1, k2⟩ := w.env.sl j _ q3
  rw [q4] at k1; cases k1
  obtain ⟨b, us, k3, k4, _⟩ := k2
  cases k3
  rw [this] at k4; cases k4
end
section
variable {X : Cx} {M0 : Mp} {H0 : Hp} {W : WX} {st : Stmt} {i j k : Nat} {l : List Itm}
theorem par_go {D : Ends} {s : L2.St} {H : Hp} {is : List Nat} (h : tS (gx X) M0 H0 W (sParG is l) D s H) : tItms (gx X) W l s H fun vs H1 => vs.length = is.length ∧ D.nx ((is.zip vs).foldl (fun s z => s.set z.1 (some z.2)) s) H1 := by
  obtain ⟨M, r, S, w, p⟩ := h
  refine ⟨M, r, S, w.env, w.heap, (PostS.toS (R := ItRs (gx X) H) w p).imp fun vs H1 h => ?_⟩
  obtain ⟨M1, xs, S1, w1, e1, rv, p1⟩ := h
  cases q : putAll is xs r with
  | none => rw [q] at p1; exact p1.elim
  | some r' =>
    rw [q] at p1
    obtain ⟨w2, hl⟩ := put_all (Hs := H) (fun p hp => none_back w.ext hp) is xs vs r r' s w1 rv (own_not (S' := S1) w rv) q
    exact ⟨hl, p1 M1 _ H1 w2 Le.refl⟩
theorem ss_par2 (h : PS X st (tPar i j (tItms (gx X) W l))) : SS X M0 H0 W st (sParG [i, j] l) := by
  refine h.dimp ?_
  intro D s H q
  obtain ⟨M, r, S, en, rh, p⟩ := par_go q
  refine ⟨M, r, S, en, rh, p.imp fun vs H1 h => ?_⟩
  obtain ⟨hl, q⟩ := h
  match vs, hl, q with
  | [v, w], _, q => exact ⟨v, w, rfl, q⟩
theorem ss_par3 (h : PS X st (tPar3 i j k (tItms (gx X) W l))) : SS X M0 H0 W st (sParG [i, j, k] l) := by
  refine h.dimp ?_
  intro D s H q
  obtain ⟨M, r, S, en, rh, p⟩ := par_go q
  refine ⟨M, r, S, en, rh, p.imp fun vs H1 h => ?_⟩
  obtain ⟨hl, q⟩ := h
  match vs, hl, q with
  | [u, v, w], _, q => exact ⟨u, v, w, rfl, q⟩
end
end Dn

end
section
set_option Elab.async false
set_option linter.all false
set_option maxRecDepth 100000
set_option maxHeartbeats 4000000
/-! Dicts: new ones, displays, look-ups, stores. -/
namespace Dn
open PySem PySem.Spec PyProof.Rows L2
/-! ### what they are worth -/
section
variable {κ : Type} [DecidableEq κ]
def getKV (f : D → Option κ) (kvs : List (D × D)) (c : κ) : Option D := (kvs.find? fun p => decide (f p.1 = some c)).map (·.2)
def putKV (f : D → Option κ) (kvs : List (D × D)) (k : D) (c : κ) (v : D) : List (D × D) :=
  if (kvs.any fun p => decide (f p.1 = some c)) then kvs.map fun p => if f p.1 = some c then (p.1, v) else p else kvs ++ [(k, v)]
def dropKV (f : D → Option κ) (kvs : List (D × D)) (c : κ) : List (D × D) := kvs.filter fun p => decide (f p.1 ≠ some c)
end
/-- what stands at a key; none: no key of this sort of dict -/
def dGet (t : Bool) (kvs : List (D × D)) (k : D) : Option (Option D) := if t then (keysOf k).map (getKV keysOf kvs) else (keyOf k).map (getKV keyOf kvs)
def dPut (t : Bool) (kvs : List (D × D)) (k v : D) : Option (List (D × D)) := if t then (keysOf k).map fun c => putKV keysOf kvs k c v else (keyOf k).map fun c => putKV keyOf kvs k c v
/-- the dict of a number -/
def dctOf (S : Store) : D → Option (Nat × Bool × List (D × D))
  | .ref l => (match S[l]? with
    | some (.dct t kvs) => some (l, t, kvs)
    | _ => none)
  | _ => none
/-- {} -/
def eDct (t : Bool) : DE := fun _ S => .ok (.ref S.length) (S ++ [.dct t []])
/-- pairs of a display -/
abbrev DPs := Rho → Store → Rs (List (D × D))
def kvNil : DPs := fun _ S => .ok [] S
def kvCons (k v : DE) (l : DPs) : DPs := fun r S => (k r S).bind fun x S => (v r S).bind fun y S => (l r S).bind fun ps S => .ok ((x, y) :: ps) S
def mergeKV : List (D × D) → List (D × D) → Option (List (D × D))
  | acc, [] => some acc
  | acc, (k, v) :: l => match keyOf k with
    | some c => mergeKV (putKV keyOf acc k c v) l
    | none => none
/-- {k: v, ..} -/
def eDisp (ps : DPs) : DE := fun r S => (ps r (S ++ [.dct false []])).bind fun l S' => match S'[S.length]? with
  | some (.dct false []) => if l.length ≤ 15 then (match mergeKV [] l with
    | some kvs => .ok (.ref S.length) (S'.set S.length (.dct false kvs))
    | none => .bad) else .bad
  | _ => .bad
/-- d[k] -/
def eDGet (d k : DE) : DE := fun r S => (d r S).bind fun x S => (k r S).bind fun y S => match dctOf S x with
  | some (_, t, kvs) => Rs.ofO ((dGet t kvs y).bind id) S
  | none => .bad
/-- k in d (n: not in) -/
def eDIn (n : Bool) (k d : DE) : DE := fun r S => (k r S).bind fun y S => (d r S).bind fun x S => match dctOf S x with
  | some (_, t, kvs) => Rs.ofO ((dGet t kvs y).map fun o => .bl (o.isSome != n)) S
  | none => .bad
/-- d.get(k, z) -/
def eDGet2 (d k z : DE) : DE := fun r S => (d r S).bind fun x S => if (dctOf S x).isSome then (k r S).bind fun y S => (z r S).bind fun w S => match dctOf S x with
  | some (_, t, kvs) => Rs.ofO ((dGet t kvs y).map fun o => o.getD w) S
  | none => .bad else .bad
/-- d[k] = v -/
def sDPutR (d k v : DE) : DS := fun r S => (v r S).toS r fun w S => (d r S).toS r fun x S => (k r S).toS r fun y S => match dctOf S x with
  | some (l, t, kvs) => if kvs.length < sizeLine then (match dPut t kvs y w with
    | some kvs' => .next r (S.set l (.dct t kvs'))
    | none => .bad) else .bad
  | none => .bad
/-! ### soundness -/
section
variable {G : Gx} {M : Mp}
variable {κ : Type} [DecidableEq κ] {f : D → Option κ}
theorem RelKV.len : ∀ {kvs : List (D × D)} {vs : List (κ × V)}, RelKV G M f kvs vs → kvs.length = vs.length
  | [], _, h => by cases (show _ = [] from h); rfl
  | (k, d) :: r, _, h => by
    obtain ⟨c, v, s, rfl, _, _, h3⟩ := h
    simp [RelKV.len h3]
theorem RelKV.get (c : κ) : ∀ {kvs : List (D × D)} {vs : List (κ × V)}, RelKV G M f kvs vs → (match getKV f kvs c with
    | some d => ∃ v, valV vs c = some v ∧ RelD G M d v
    | none => valV vs c = none)
  | [], _, h => by cases (show _ = [] from h); rfl
  | (k, d) :: r, _, h => by
    obtain ⟨c', v, s, rfl, h1, h2, h3⟩ := h
    by_cases e : c' = c
    · have e1 : getKV f ((k, d) :: r) c = some d := by simp [getKV, List.find?_cons, h1, e]
      rw [e1]
      exact ⟨v, valV_pos e, h2⟩
    · have e1 : getKV f ((k, d) :: r) c = getKV f r c := by simp [getKV, List.find?_cons, h1, e]
      rw [e1, valV_neg (p := (c', v)) (r := s) e]
      exact RelKV.get c h3
theorem RelKV.any (c : κ) : ∀ {kvs : List (D × D)} {vs : List (κ × V)}, RelKV G M f kvs vs → (kvs.any fun p => decide (f p.1 = some c)) = vs.any fun kv => decide (kv.1 = c)
  | [], _, h => by cases (show _ = [] from h); rfl
  | (k, d) :: r, _, h => by
    obtain ⟨c', v, s, rfl, h1, h2, h3⟩ := h
    simp only [List.any_cons, RelKV.any c h3, h1, Option.some.injEq]
theorem RelKV.append : ∀ {a b : List (D × D)} {vs ws : List (κ × V)}, RelKV G M f a vs → RelKV G M f b ws → RelKV G M f (a ++ b) (vs ++ ws)
  | [], _, _, _, h, k => by cases (show _ = [] from h); exact k
  | (x, d) :: r, _, _, _, h, k => by
    obtain ⟨c', v, s, rfl, h1, h2, h3⟩ := h
    exact ⟨c', v, s ++ _, rfl, h1, h2, RelKV.append h3 k⟩
theorem RelKV.repl (c : κ) {d : D} {v : V} (hv : RelD G M d v) : ∀ {kvs : List (D × D)} {vs : List (κ × V)}, RelKV G M f kvs vs → RelKV G M f (kvs.map fun p => if f p.1 = some c then (p.1, d) else p) (vs.map fun kv => if kv.1 = c then (kv.1, v) else kv)
  | [], _, h => by cases (show _ = [] from h); rfl
  | (k, x) :: r, _, h => by
    obtain ⟨c', y, s, rfl, h1, h2, h3⟩ := h
    have ih := RelKV.repl c hv h3
    by_cases e : c' = c
    · subst e
      have e0 : ((c', y) :: s).map (fun kv => if kv.1 = c' then (kv.1, v) else kv) = (c', v) :: s.map fun kv => if kv.1 = c' then (kv.1, v) else kv := by simp
      rw [e0, List.map_cons]
      dsimp only
      rw [if_pos h1]
      exact ⟨c', v, _, rfl, h1, hv, ih⟩
    · have e0 : ((c', y) :: s).map (fun kv => if kv.1 = c then (kv.1, v) else kv) = (c', y) :: s.map fun kv => if kv.1 = c then (kv.1, v) else kv := by simp [e]
      have : ¬ f k = some c := by rw [h1]; exact fun z => e (Option.some.inj z)
      rw [e0, List.map_cons]
      dsimp only
      rw [if_neg this]
      exact ⟨c', y, _, rfl, h1, h2, ih⟩
theorem RelKV.put {k : D} {c : κ} {d : D} {v : V} (hk : f k = some c) (hv : RelD G M d v) {kvs : List (D × D)} {vs : List (κ × V)} (h : RelKV G M f kvs vs) : RelKV G M f (putKV f kvs k c d) (putK vs c v) := by
  unfold putKV putK
  rw [h.any c]
  split
  · exact h.repl c hv
  · exact h.append ⟨c, v, [], rfl, hk, hv, rfl⟩
end
theorem key_v {G : Gx} {M : Mp} {k : D} {c : Key} {v : V} (h : keyOf k = some c) (r : RelD G M k v) : v = kV c := by
  cases k <;> simp only [keyOf] at h <;> cases h <;> exact r
variable [Tb]
/-- a new object is laid and numbered -/
theorem Ext.objNew {G : Gx} {M : Mp} {S : Store} {H : Hp} {p : Addr} {so : SO} {ho : HO} (rh : RelH G M S H) (hp : H p = none) (h : ∀ M', Ext M H M' (upd H p ho) → ObjR G M' so (some ho)) :
    ∃ M', Ext M H M' (upd H p ho) ∧ RelH G M' (S ++ [so]) (upd H p ho) ∧ M'.loc S.length = some p := by
  have nl := rh.nolst hp
  have no := rh.noloc hp
  have ne : ∀ b o, H b = some o → b ≠ p := fun b o h q => by rw [q, hp] at h; cases h
  have nS : ∀ l x, M.loc l = some x → l ≠ S.length := fun l x h q => by have := rh.dom l x h; omega
  have ex : Ext M H ⟨fun l => if l = S.length then some p else M.loc l, M.tup, M.lst⟩ (upd H p ho) := by
    refine ⟨fun l x h => ?_, fun _ _ h => h, fun _ _ h => h, fun l x h => ?_, fun _ _ h => .inl h, fun a o h _ _ => ?_, fun a o h => ⟨o, ?_⟩⟩
    · show (if l = S.length then some p else M.loc l) = some x
      rw [if_neg (nS l x h)]; exact h
    · have h' : (if l = S.length then some p else M.loc l) = some x := h
      by_cases q : l = S.length
      · rw [if_pos q] at h'; cases h'
        exact .inr hp
      · rw [if_neg q] at h'; exact .inl h'
    · rw [upd_ne (ne a o h)]; exact h
    · rw [upd_ne (ne a o h)]; exact h
  refine ⟨_, ex, ?_, by show (if S.length = S.length then some p else M.loc S.length) = some p; rw [if_pos rfl]⟩
  refine ⟨fun l o q => ?_, fun l x h => ?_, fun l k x h1 h2 => ?_, fun a x h => ?_, fun a x h => ?_, fun a x l h q => ?_, tabs_fresh rh.tabs hp⟩
  · by_cases hl : l = S.length
    · subst hl
      rw [List.getElem?_append_right (Nat.le_refl _)] at q
      simp at q
      subst q
      refine ⟨p, by show (if S.length = S.length then some p else M.loc S.length) = some p; rw [if_pos rfl], ?_⟩
      rw [upd_same]
      exact h _ ex
    · have hlt : l < S.length := by
        have := (List.getElem?_eq_some_iff.mp q).1
        simp at this; omega
      rw [List.getElem?_append_left hlt] at q
      obtain ⟨a, e1, e2⟩ := rh.obj l o q
      have hne : a ≠ p := fun z => no l (by rw [← z]; exact e1)
      refine ⟨a, by show (if l = S.length then some p else M.loc l) = some a; rw [if_neg hl]; exact e1, ?_⟩
      rw [upd_ne hne]
      exact e2.mono ex
  · have h' : (if l = S.length then some p else M.loc l) = some x := h
    by_cases q : l = S.length
    · rw [q]; simp
    · rw [if_neg q] at h'
      have := rh.dom l x h'
      simp; omega
  · have h1' : (if l = S.length then some p else M.loc l) = some x := h1
    have h2' : (if k = S.length then some p else M.loc k) = some x := h2
    by_cases q1 : l = S.length <;> by_cases q2 : k = S.length
    · rw [q1, q2]
    · rw [if_pos q1] at h1'; rw [if_neg q2] at h2'; cases h1'; exact absurd h2' (no k)
    · rw [if_neg q1] at h1'; rw [if_pos q2] at h2'; cases h2'; exact absurd h1' (no l)
    · rw [if_neg q1] at h1'; rw [if_neg q2] at h2'; exact rh.inj l k x h1' h2'
  · have := rh.tup a x h
    rw [upd_ne (ne a _ this)]; exact this
  · have q : a ≠ p := fun q => by rw [q, nl] at h; cases h
    rcases rh.lst a x h with z | ⟨o, z⟩
    · exact .inl (by rw [upd_ne q]; exact z)
    · exact .inr ⟨o, by rw [upd_ne q]; exact z⟩
  · have h' : (if l = S.length then some p else M.loc l) = some a := q
    by_cases z : l = S.length
    · rw [if_pos z] at h'; cases h'
      rw [nl] at h; cases h
    · rw [if_neg z] at h'
      exact rh.apt a x l h h'
section
variable {X : Cx} {W : WX} {pos : Pos}
theorem se_dctK : SE X W (.Dict [] [] pos) (eDct false) := by
  refine pe_dnewK.dimp ?_
  rintro s H Q ⟨M, r, S, en, rh, p⟩ q hq
  obtain ⟨M', e, rh', hl⟩ := Ext.objNew (so := .dct false []) (ho := .dK []) rh hq fun M' e => .inl ⟨rfl, [], rfl, rfl⟩
  exact p M' _ _ e rh' ⟨q, rfl, hl⟩
theorem se_dctT : SE X W (.Dict [] [] pos) (eDct true) := by
  refine pe_dnewT.dimp ?_
  rintro s H Q ⟨M, r, S, en, rh, p⟩ q hq
  obtain ⟨M', e, rh', hl⟩ := Ext.objNew (so := .dct true []) (ho := .dT []) rh hq fun M' e => .inr ⟨rfl, [], rfl, rfl⟩
  exact p M' _ _ e rh' ⟨q, rfl, hl⟩
/-- pairs lie as they are told -/
def RelPs (G : Gx) (M : Mp) : List (D × D) → List (V × V) → Prop
  | [], vs => vs = []
  | (k, d) :: r, vs => ∃ y v s, vs = (y, v) :: s ∧ RelD G M k y ∧ RelD G M d v ∧ RelPs G M r s
def tKv (G : Gx) (W : WX) (d : DPs) (s : L2.St) (H : Hp) (Q : List (V × V) → Hp → Prop) : Prop := ∃ M r S, EnvR G M H r s ∧ RelH G M S H ∧ Post G (fun M _ l ps => RelPs G M l ps) W M H s (d r S) Q
structure SKv (X : Cx) (W : WX) (pos : Pos) (ks : List (Option Expr)) (vs : List Expr) (d : DPs) : Prop where
  ok : ∃ trs, PPs X pos ks vs trs ∧ ∀ s H Q, tKv (gx X) W d s H Q → tPairs trs s H Q
theorem kv_nil : SKv X W pos [] [] kvNil := ⟨[], pps_nil, by
  rintro s H Q ⟨M, r, S, en, rh, p⟩
  exact p M [] H Ext.refl rh rfl⟩
theorem kv_cons {k v : Expr} {ks : List (Option Expr)} {vs : List Expr} {dk dv : DE} {l : DPs} (hk : SE X W k dk) (hv : SE X W v dv) (hr : SKv X W pos ks vs l) : SKv X W pos (some k :: ks) (v :: vs) (kvCons dk dv l) := by
  obtain ⟨trs, h1, h2⟩ := hr.ok
  refine ⟨_, pps_cons hk hv h1, ?_⟩
  rintro s H Q ⟨M, r, S, en, rh, p⟩
  refine ⟨M, r, S, en, rh, (Post.bind (R := RD (gx X)) p).imp fun y H1 h => ?_⟩
  obtain ⟨M1, x, S1, e1, rh1, rd1, p1⟩ := h
  refine ⟨M1, r, S1, en.mono e1, rh1, (Post.bind (R := RD (gx X)) p1).imp fun w H2 h => ?_⟩
  obtain ⟨M2, z, S2, e2, rh2, rd2, p2⟩ := h
  refine h2 s H2 _ ⟨M2, r, S2, (en.mono e1).mono e2, rh2, (Post.bind (R := fun M _ l ps => RelPs (gx X) M l ps) p2).imp fun ps H3 h => ?_⟩
  obtain ⟨M3, l3, S3, e3, rh3, rd3, p3⟩ := h
  exact p3 M3 _ H3 Ext.refl rh3 ⟨y, w, ps, rfl, (rd1.mono e2).mono e3, rd2.mono e3, rd3⟩
theorem merge_rel {G : Gx} {M : Mp} : ∀ {l : List (D × D)} {ps : List (V × V)} {acc kvs : List (D × D)} {vs : List (Key × V)}, RelPs G M l ps → RelKV G M keyOf acc vs → mergeKV acc l = some kvs → ∃ ws : List (Key × V), ps = ws.map (fun kv => (kV kv.1, kv.2)) ∧ ws.length = l.length ∧ RelKV G M keyOf kvs (mergeK vs ws)
  | [], _, acc, kvs, vs, h, k, e => by
    cases (show _ = [] from h)
    cases e
    exact ⟨[], rfl, rfl, k⟩
  | (x, d) :: l, _, acc, kvs, vs, h, k, e => by
    obtain ⟨y, v, s, rfl, h1, h2, h3⟩ := h
    unfold mergeKV at e
    cases q : keyOf x with
    | none => rw [q] at e; cases e
    | some c =>
      rw [q] at e
      obtain ⟨ws, w1, w2, w3⟩ := merge_rel h3 (k.put q h2) e
      refine ⟨(c, v) :: ws, ?_, by simp [w2], w3⟩
      rw [key_v q h1, w1]
      rfl
theorem se_disp {ks : List (Option Expr)} {vs : List Expr} {d : DPs} (h : SKv X W pos ks vs d) (hall : ks.all (·.isSome) = true) (hl : ks.length = vs.length) (h0 : ks ≠ []) (h15 : ks.length ≤ 15) : SE X W (.Dict ks vs pos) (eDisp d) := by
  obtain ⟨trs, h1, h2⟩ := h.ok
  refine (pe_disp h1 hall hl h0 h15).dimp ?_
  rintro s H Q ⟨M, r, S, en, rh, p⟩ q hq
  obtain ⟨M', e, rh', hloc⟩ := Ext.objNew (so := .dct false []) (ho := .dK []) rh hq fun M' e => .inl ⟨rfl, [], rfl, rfl⟩
  refine h2 s _ _ ⟨M', r, _, en.mono e, rh', ((Post.bind (R := fun M _ l ps => RelPs (gx X) M l ps) (Post.mono e p))).imp fun ps H2 h => ?_⟩
  obtain ⟨M2, l, S2, e2, rh2, rd2, p2⟩ := h
  cases q2 : S2[S.length]? with
  | none => rw [q2] at p2; exact p2.elim
  | some o =>
    rw [q2] at p2
    cases o with
    | lst _ => exact p2.elim
    | ins _ _ => exact p2.elim
    | dct t kvs =>
      cases t with
      | true => exact p2.elim
      | false =>
        cases kvs with
        | cons _ _ => exact p2.elim
        | nil =>
          dsimp only at p2
          split at p2
          · rename_i h15
            cases q3 : mergeKV [] l with
            | none => rw [q3] at p2; exact p2.elim
            | some kvs =>
              rw [q3] at p2
              have hloc2 := e2.loc _ _ hloc
              obtain ⟨a, x1, x2⟩ := rh2.obj _ _ q2
              rw [hloc2] at x1; cases x1
              obtain ⟨ws, w1, w2, w3⟩ := merge_rel rd2 (acc := []) (vs := []) rfl q3
              have hH : H2 q = some (.dK []) := by
                rcases x2 with ⟨_, vs, y1, y2⟩ | ⟨z, _⟩
                · cases (show vs = [] from y2); exact y1
                · cases z
              refine ⟨hH, ws, w1, by omega, ?_⟩
              obtain ⟨r1, r2⟩ := rh2.put (o' := .dct false kvs) (ho := .dK (mergeK [] ws)) hloc2 q2 (.inl ⟨rfl, _, rfl, w3⟩)
              exact p2 M2 _ _ r2 r1 ⟨q, rfl, hloc2⟩
          · exact p2.elim
/-- isinstance(x, a built-in class), x maybe an instance of one of cs -/
def eIsTyI (cs : List Str) (n : String) (a : DE) : DE := fun r S => (a r S).bind fun x S => match tyName S x with
  | some t => .ok (.bl (isTy t n)) S
  | none => match x with
    | .ref l => (match S[l]? with
      | some (.ins c _) => if c ∈ cs then .ok (.bl false) S else .bad
      | _ => .bad)
    | _ => .bad
theorem se_isTyI {n : String} {cs : List Str} {e : Expr} {da : DE} (hn : kitOk n = true) (hi : ∀ c ∈ cs, ∀ C, X.mg c = some (.ref C) → Cls X.K C ∧ InsK X.K C ∧ PySem.W.kitOne X.K (.ref C) (.type n) = some false)
    (hc : PE X e (tCB (rIsi X.K) (tCons (tE (gx X) W da) (tCons (tC (.ty n)) tNil)))) : SE X W e (eIsTyI cs n da) := by
  refine hc.dimp ?_
  rintro s H Q ⟨M, r, S, en, rh, p⟩
  refine ⟨M, r, S, en, rh, (Post.bind (R := RD (gx X)) p).imp fun v H1 h => ?_⟩
  obtain ⟨M1, x, S1, e1, rh1, rd1, p1⟩ := h
  cases q : tyName S1 x with
  | none =>
    rw [q] at p1
    cases x with
    | ref l =>
      dsimp only at p1
      cases q2 : S1[l]? with
      | none => rw [q2] at p1; exact p1.elim
      | some o =>
        rw [q2] at p1
        cases o with
        | lst _ => exact p1.elim
        | dct _ _ => exact p1.elim
        | ins c fs =>
          dsimp only at p1
          split at p1
          · rename_i hm
            obtain ⟨a, rfl, h1⟩ := rd1
            obtain ⟨a', e2, C, dx, vfs, x2, x3, x4⟩ := rh1.obj l _ q2
            rw [h1] at e2; cases e2
            obtain ⟨k1, k2, k3⟩ := hi c hm C x3
            exact ⟨.ref a, .ty n, .ref C, .type n, false, rfl, .ty n, .base (.ins x2 k1 k2.ha k2.hn k2.htk k2.hm), k3, p1 M1 _ H1 Ext.refl rh1 rfl⟩
          · exact p1.elim
    | _ => exact p1.elim
  | some t =>
    rw [q] at p1
    have hk : kitB t n = some (isTy t n) := by
      unfold kitOk at hn
      rw [List.all_eq_true] at hn
      refine of_decide_eq_true (hn t ?_)
      cases x with
      | non => cases q; simp
      | bl _ => cases q; simp
      | int _ => cases q; simp
      | str _ => cases q; simp
      | tup _ => cases q; simp
      | lst _ => cases q; simp
      | ref l =>
        dsimp only [tyName] at q
        split at q
        · cases q; simp
        · cases q; simp
        · cases q
      | cls _ => cases q
      | fn _ => cases q
    exact ⟨v, .ty n, .type t, .type n, isTy t n, rfl, .ty n, ty_ok rh1 rd1 q, kit_ty hk, p1 M1 _ H1 Ext.refl rh1 rfl⟩
/-- from the head's facts -/
theorem insc_nil {G : Gx} {n : String} : ∀ c ∈ ([] : List Str), ∀ C, G.mg c = some (.ref C) → Cls G.K C ∧ InsK G.K C ∧ PySem.W.kitOne G.K (.ref C) (.type n) = some false := fun _ h => by cases h
theorem insc_cons {mg : Str → Option Value} {K : PySem.W.Frag} {n : String} {c : Str} {cs : List Str} (hg : mg c = some (.ref (He.ga K c))) (h1 : Cls K (He.ga K c)) (h2 : InsK K (He.ga K c)) (h3 : PySem.W.kitOne K (.ref (He.ga K c)) (.type n) = some false)
    (h : ∀ c ∈ cs, ∀ C, mg c = some (.ref C) → Cls K C ∧ InsK K C ∧ PySem.W.kitOne K (.ref C) (.type n) = some false) : ∀ d ∈ c :: cs, ∀ C, mg d = some (.ref C) → Cls K C ∧ InsK K C ∧ PySem.W.kitOne K (.ref C) (.type n) = some false := fun d hd C q => by
  rcases List.mem_cons.mp hd with rfl | hd
  · rw [hg] at q
    cases q
    exact ⟨h1, h2, h3⟩
  · exact h d hd C q
end
end Dn

end
section
set_option Elab.async false
set_option linter.all false
set_option maxRecDepth 100000
set_option maxHeartbeats 4000000
/-! raise C(e, ..), C's own __init__ keeps its arguments in fields. -/
namespace Dn
open PySem PySem.Spec PyProof.Rows L2
/-! ### the __init__ of such a class -/
/-- what stands in the fields: the last stored first -/
def flds {a : Type} (vs : List a) : List (Str × Nat) → List (Str × a) → Option (List (Str × a))
  | [], acc => some acc
  | (f, i) :: r, acc => match vs[i]? with
    | some v => flds vs r ((f, v) :: acc)
    | none => none
/-- self.f = p, one behind another -/
def tIni (K : PySem.W.Frag) : List (Str × Nat) → TS
  | [] => tNext
  | (f, i) :: r => tSeq (tOst K f (tVar 0) (tVar i)) (tIni K r)
theorem ini_nil {X : Cx} : PSs X [] (tIni X.K []) := pss_nil
theorem ini_cons {X : Cx} {st : Stmt} {rest : List Stmt} {f : Str} {i : Nat} {l : List (Str × Nat)} (h : PS X st (tOst X.K f (tVar 0) (tVar i))) (k : PSs X rest (tIni X.K l)) : PSs X (st :: rest) (tIni X.K ((f, i) :: l)) := pss_cons h k
/-- the exception's heap -/
def exH (H : Hp) (a C d : Addr) (fs : List (Str × V)) : Hp := upd (upd H d (exd d fs)) a (exo a C (some d))
theorem exH_a {H : Hp} {a C d : Addr} {fs : List (Str × V)} : exH H a C d fs a = some (exo a C (some d)) := upd_same
theorem exH_d {H : Hp} {a C d : Addr} {fs : List (Str × V)} (ne : d ≠ a) : exH H a C d fs d = some (exd d fs) := by
  unfold exH
  rw [upd_ne ne, upd_same]
theorem exH_put {H : Hp} {a C d : Addr} {fs gs : List (Str × V)} (ne : d ≠ a) : upd (exH H a C d fs) d (exd d gs) = exH H a C d gs := by
  funext b
  unfold exH
  by_cases h1 : b = d
  · subst h1
    rw [upd_same, upd_ne ne, upd_same]
  · rw [upd_ne h1]
    by_cases h2 : b = a
    · rw [h2, upd_same, upd_same]
    · rw [upd_ne h2, upd_ne h2, upd_ne h1, upd_ne h1]
/-- the promise of such an __init__ -/
def spI (K : PySem.W.Frag) (n : Nat) (l : List (Str × Nat)) : Sp := fun vs H Q _ => ∃ (a C : Addr) (ws : List V) (fs : List (Str × V)), vs = .ref a :: ws ∧ ws.length = n ∧ OexC K C ∧ (∀ p ∈ l, PySem.W.findIn K (.ref C) p.1 = some none) ∧ l ≠ [] ∧ l.length ≤ 900 ∧ flds vs l [] = some fs ∧ H a = some (exo a C none) ∧
  ∀ d, H d = none → d ≠ a → Q .non (exH H a C d fs)
theorem ini_run {K : PySem.W.Frag} {D : Ends} {σ : L2.St} {H : Hp} {a C d : Addr} (T : OexC K C) (ne : d ≠ a) : ∀ (l : List (Str × Nat)) (vs : List V) (acc fs : List (Str × V)), σ[0]? = some (some (.ref a)) → (∀ (i : Nat) (v : V), vs[i]? = some v → σ[i]? = some (some v)) → (∀ p ∈ l, PySem.W.findIn K (.ref C) p.1 = some none) → acc.length + l.length ≤ 900 → flds vs l acc = some fs → D.nx σ (exH H a C d fs) → tIni K l D σ (exH H a C d acc)
  | [], vs, acc, fs, _, _, _, _, e, q => by cases e; exact q
  | (f, i) :: r, vs, acc, fs, h0, hv, hf, hl, e, q => by
    unfold flds at e
    cases z : vs[i]? with
    | none => rw [z] at e; cases e
    | some v =>
      rw [z] at e
      simp only [List.length_cons] at hl
      refine ⟨v, hv i v z, .ref a, h0, a, C, rfl, T, hf _ (List.mem_cons_self ..), .inr ⟨d, acc, exH_a, exH_d ne, by omega, ?_⟩⟩
      have ih := ini_run (H := H) T ne r vs ((f, v) :: acc) fs h0 hv (fun p hp => hf p (List.mem_cons_of_mem _ hp)) (by simp only [List.length_cons]; omega) e q
      rw [exH_put ne]
      exact ih
section
variable {P : Program} {w : World} {K : PySem.W.Frag} {mg : Str → Option Value} {base : Heap}
theorem fn_exi {x qual : Str} {params : Arguments} {body : List Stmt} {scope : Scope} {f : Addr} {fd : FuncData} {N ps : List Str} {k n : Nat} {l : List (Str × Nat)} (F : FunD K x qual params body scope [] [] f fd) (S : FnScope N ps scope) (hp : ps.length = n + 1)
    (hb : ∀ (cdv : Value) (A : Around) (outer : List Env) (s : Shared) (H : Hp) (E : XK), PSs (cxOf (L2.CX P w) P w K mg base N qual scope f cdv A outer s H E) body (tIni K l)) : FnOk P w K mg base (L2.CX P w) (k + 1) f fd ps (spI K n l) := by
  refine F.ok S (fun vs H Q E h => ?_) fun cdv A outer s H vs Q E hr h => ?_
  · obtain ⟨a, C, ws, fs, rfl, hl, _⟩ := h
    rw [hp, List.length_cons, hl]
  · obtain ⟨a, C, ws, fs, rfl, hl, T, hf, hne, h9, hfl, hH, hq⟩ := h
    refine ⟨_, hb cdv A outer s H E, ?_⟩
    have hv : ∀ (i : Nat) (v : V), (V.ref a :: ws)[i]? = some v → (L2.start N (V.ref a :: ws))[i]? = some (some v) := fun i v e => by
      unfold L2.start
      have hi := (List.getElem?_eq_some_iff.mp e).1
      rw [List.getElem?_append_left (by simpa using hi), List.getElem?_map, e]
      rfl
    have h0 := hv 0 (.ref a) rfl
    match l, hne with
    | (g, i) :: r, _ =>
      unfold flds at hfl
      cases z : (V.ref a :: ws)[i]? with
      | none => rw [z] at hfl; cases hfl
      | some v =>
        rw [z] at hfl
        simp only [List.length_cons] at h9
        refine ⟨v, hv i v z, .ref a, h0, a, C, rfl, T, hf _ (List.mem_cons_self ..), .inl ⟨hH, fun d hd ne => ?_⟩⟩
        exact ini_run (H := H) (C := C) T ne r _ [(g, v)] fs h0 hv (fun p hp => hf p (List.mem_cons_of_mem _ hp)) (by simp only [List.length_cons, List.length_nil]; omega) hfl (hq d hd ne)
end
end Dn

end
section
set_option Elab.async false
set_option linter.all false
set_option maxRecDepth 100000
set_option maxHeartbeats 4000000
/-! raise C(e, ..), C's own __init__ keeping its arguments. -/
namespace Dn
open PySem PySem.Spec PyProof.Rows L2
variable [Tb]
/-- n arguments; l: the fields, in order, with the parameters' numbers (self is 0) -/
def sRaiseA (c : Str) (n : Nat) (l : List (Str × Nat)) (a : DA) : DS := fun r S => (a r S).toS r fun xs S => if xs.length = n then (match flds (D.non :: xs) l [] with
  | some fs => .exc c fs r S
  | none => .bad) else .bad
theorem flds_rel {G : Gx} {M : Mp} {ds : List D} {vs : List V} : ∀ (l : List (Str × Nat)) (acc fs : List (Str × D)) (vacc : List (Str × V)), (∀ p ∈ l, ∀ d, ds[p.2]? = some d → ∃ v, vs[p.2]? = some v ∧ RelD G M d v) → RelFs G M acc vacc → flds ds l acc = some fs → ∃ vfs, flds vs l vacc = some vfs ∧ RelFs G M fs vfs
  | [], acc, fs, vacc, _, ra, e => by
    cases e
    exact ⟨vacc, rfl, ra⟩
  | (f, i) :: l, acc, fs, vacc, h, ra, e => by
    unfold flds at e
    cases z : ds[i]? with
    | none => rw [z] at e; cases e
    | some d =>
      rw [z] at e
      obtain ⟨v, hv, rv⟩ := h (f, i) (List.mem_cons_self ..) d z
      obtain ⟨vfs, e1, r1⟩ := flds_rel l ((f, d) :: acc) fs ((f, v) :: vacc) (fun p hp => h p (List.mem_cons_of_mem _ hp)) ⟨v, vacc, rfl, rv, ra⟩ e
      refine ⟨vfs, ?_, r1⟩
      unfold flds
      rw [hv]
      exact e1
section
variable {X : Cx} {M0 : Mp} {H0 : Hp} {W : WX} {C fI : Addr} {x : Str} {p p2 pos : Pos} {e : Expr} {es : List Expr} {da : DA} {k n : Nat} {fd : FuncData} {ps : List Str} {l : List (Str × Nat)}
theorem ss_raiseA (hc : X.calm = true) (tk : Takes X W) (T : OexF X.K C fI (l.map (·.1))) (gC : X.mg x = some (.ref C)) (hg : Gl X x) (F1 : FnOk X.prog X.w X.K X.mg X.base (L2.CX X.prog X.w) k fI fd ps (spI X.K n l)) (hr : RoomG (k + 1) X.A) (hb : Binds X.K fd ps [])
    (h0 : l ≠ []) (h1 : (l.all fun p => decide (1 ≤ p.2)) = true) (h9 : l.length ≤ 900) (hn : n ≤ 900) (ha : SA X W (e :: es) da)
    (hdb : (x == ("__debug__" : Str)) = false := by decide) (he : starEach (e :: es) X.env = (false, eval e X.env) :: starEach es X.env := by rfl) (hpl : (backTo p2 (starEach es X.env)).any (·.1) = false := by rfl) :
    SS X M0 H0 W (.Raise (some (.Call (.Name x p) (e :: es) [] p2)) none pos) (sRaiseA x n l da) := by
  refine (ps_raise hc tk (pmk_oex T.T T.iC T.tI F1 hr.r hb .nil (passes_call tk fun _ _ _ _ h => h.elim) hg gC ha hdb he hpl)).dimp ?_
  rintro D s H ⟨M, r, S, w, pp⟩
  refine ⟨M, r, S, w.env, w.heap, (PostS.toS w pp).imp fun vs H1 h => ?_⟩
  obtain ⟨M1, xs, S1, w1, e1, rd, q⟩ := h
  split at q
  · rename_i hl
    split at q
    · rename_i fs hfs
      have hlen := rd.len
      refine ⟨by omega, fun a hfree => ?_⟩
      obtain ⟨vfs, e2, rf⟩ := flds_rel (G := gx X) (M := M1) (ds := Dn.D.non :: xs) (vs := V.ref a :: vs) l [] fs [] (fun p hp d hd => by
        have := List.all_eq_true.mp h1 p hp
        have h1 : 1 ≤ p.2 := of_decide_eq_true this
        obtain ⟨j, hj⟩ : ∃ j, p.2 = j + 1 := ⟨p.2 - 1, by omega⟩
        rw [hj] at hd ⊢
        exact rd.get (i := j) (by simpa using hd)) rfl hfs
      refine ⟨a, C, vs, vfs, by simp, by omega, T.T, fun p hp => T.hf p.1 (List.mem_map_of_mem hp), h0, h9, by simpa using e2, upd_same, fun d hd ne => ⟨rfl, d, vfs, exH_a, exH_d ne, ?_, ?_⟩⟩
      · rw [upd_ne ne] at hd
        exact hd
      · have hd1 : H1 d = none := by
          rw [upd_ne ne] at hd
          exact hd
        have heq : upd (del (exH (upd H1 a (exo a C none)) a C d vfs) a) d (.xd vfs) = upd H1 d (.xd vfs) := by
          funext b
          by_cases hb1 : b = d
          · rw [hb1, upd_same, upd_same]
          · rw [upd_ne hb1, upd_ne hb1]
            by_cases hb2 : b = a
            · rw [hb2, del_same, hfree]
            · rw [del_ne hb2]
              unfold exH
              rw [upd_ne hb2, upd_ne hb1, upd_ne hb2]
        rw [heq]
        have ex : Ext M1 H1 M1 (upd H1 d (.xd vfs)) := Ext.other hd1
        exact q M1 s _ C (some d) (w1.mono ex (w1.heap.other hd1)) Le.refl gC (.inr ⟨d, vfs, rfl, upd_same, rf, w1.heap.noloc hd1⟩)
    · exact q.elim
  · exact q.elim
end
end Dn

end
section
set_option Elab.async false
set_option linter.all false
set_option maxRecDepth 100000
set_option maxHeartbeats 4000000
/-! repr of data; texts compared; t[::-1]; list(range(..)), tuple(range(..)); max, min of a list. -/
namespace Dn
open PySem
/-- repr(e): of data -/
def eRepr (a : DE) : DE := fun r S => (a r S).bind fun x S => if D.pl 64 (flatL S x) && (flatL S x).P.showable && decide ((flatL S x).P.shown.length ≤ sizeLine) then .ok (.str (flatL S x).P.shown) S else .bad
/-- texts -/
def cmpEqS (x y : D) : Option Bool := match x, y with
  | .str a, .str b => some (decide (a = b))
  | _, _ => none
def cmpNeS (x y : D) : Option Bool := match x, y with
  | .str a, .str b => some (!decide (a = b))
  | _, _ => none
/-- x[::-1] -/
def eRev (a : DL) : DE := fun r S => (a r S).bind fun c S => (Rs.ofO (c.get r S) S).bind fun xs S => .ok (if c.isT then .tup xs.reverse else .lst xs.reverse) S
/-- range(i, j) as a list of numbers -/
def rgI (i j : Int) : List D := (List.range (j - i).toNat).map fun (k : Nat) => D.int (i + (k : Int))
def rgOk (i j : Int) : Bool := rOk i && rOk j && decide ((j - i).toNat ≤ 2 ^ 24)
def nRg1 (a : DE) : DA := fun r S => (a r S).bind fun x S => match x with
  | .int j => if rgOk 0 j then .ok (rgI 0 j) S else .bad
  | _ => .bad
def nRg2 (a b : DE) : DA := fun r S => (a r S).bind fun x S => (b r S).bind fun y S => match x, y with
  | .int i, .int j => if rgOk i j then .ok (rgI i j) S else .bad
  | _, _ => .bad
def eTupA (a : DA) : DE := fun r S => (a r S).bind fun xs S => .ok (.tup xs) S
/-- max(xs), min(xs), of numbers -/
def maxI : List Int → Option Int
  | [] => none
  | x :: xs => some (xs.foldl max x)
def minI : List Int → Option Int
  | [] => none
  | x :: xs => some (xs.foldl min x)
def eMaxL : DL → DE := eL1 fun t xs => if t then none else (intsOf xs).bind fun ns => (maxI ns).map D.int
def eMinL : DL → DE := eL1 fun t xs => if t then none else (intsOf xs).bind fun ns => (minI ns).map D.int
theorem fmax_le : ∀ (xs : List Int) (x : Int), (xs.foldl max x = x ∨ xs.foldl max x ∈ xs) ∧ x ≤ xs.foldl max x ∧ ∀ y ∈ xs, y ≤ xs.foldl max x
  | [], x => ⟨.inl rfl, Int.le_refl _, fun y h => by cases h⟩
  | z :: xs, x => by
    obtain ⟨h1, h2, h3⟩ := fmax_le xs (max x z)
    have hx : x ≤ max x z := Int.le_max_left _ _
    have hz : z ≤ max x z := Int.le_max_right _ _
    refine ⟨?_, Int.le_trans hx h2, fun y hy => ?_⟩
    · rcases h1 with q | q
      · show List.foldl max (max x z) xs = x ∨ List.foldl max (max x z) xs ∈ z :: xs
        rw [q]
        by_cases h : z ≤ x
        · exact .inl (Int.max_eq_left h)
        · exact .inr (by rw [Int.max_eq_right (by omega)]; simp)
      · exact .inr (List.mem_cons_of_mem _ q)
    · rcases List.mem_cons.mp hy with e | e
      · rw [e]; exact Int.le_trans hz h2
      · exact h3 y e
theorem fmin_le : ∀ (xs : List Int) (x : Int), (xs.foldl min x = x ∨ xs.foldl min x ∈ xs) ∧ xs.foldl min x ≤ x ∧ ∀ y ∈ xs, xs.foldl min x ≤ y
  | [], x => ⟨.inl rfl, Int.le_refl _, fun y h => by cases h⟩
  | z :: xs, x => by
    obtain ⟨h1, h2, h3⟩ := fmin_le xs (min x z)
    have hx : min x z ≤ x := Int.min_le_left _ _
    have hz : min x z ≤ z := Int.min_le_right _ _
    refine ⟨?_, Int.le_trans h2 hx, fun y hy => ?_⟩
    · rcases h1 with q | q
      · show List.foldl min (min x z) xs = x ∨ List.foldl min (min x z) xs ∈ z :: xs
        rw [q]
        by_cases h : x ≤ z
        · exact .inl (Int.min_eq_left h)
        · exact .inr (by rw [Int.min_eq_right (by omega)]; simp)
      · exact .inr (List.mem_cons_of_mem _ q)
    · rcases List.mem_cons.mp hy with e | e
      · rw [e]; exact Int.le_trans h2 hz
      · exact h3 y e
theorem maxI_spec {ns : List Int} {m : Int} (h : maxI ns = some m) : m ∈ ns ∧ ∀ y ∈ ns, y ≤ m := by
  cases ns with
  | nil => cases h
  | cons x xs =>
    cases h
    obtain ⟨h1, h2, h3⟩ := fmax_le xs x
    refine ⟨by rcases h1 with q | q; · rw [q]; simp
               · exact List.mem_cons_of_mem _ q, fun y hy => ?_⟩
    rcases List.mem_cons.mp hy with e | e
    · rw [e]; exact h2
    · exact h3 y e
theorem minI_spec {ns : List Int} {m : Int} (h : minI ns = some m) : m ∈ ns ∧ ∀ y ∈ ns, m ≤ y := by
  cases ns with
  | nil => cases h
  | cons x xs =>
    cases h
    obtain ⟨h1, h2, h3⟩ := fmin_le xs x
    refine ⟨by rcases h1 with q | q; · rw [q]; simp
               · exact List.mem_cons_of_mem _ q, fun y hy => ?_⟩
    rcases List.mem_cons.mp hy with e | e
    · rw [e]; exact h2
    · exact h3 y e
end Dn
namespace Dn
open PySem PySem.Spec PyProof.Rows L2
variable [Tb]
/-! ### repr -/
def rRepr (K : PySem.W.Frag) : List V → Hp → VK → Prop := fun xs H Q => ∃ v d, xs = [v] ∧ Dp K H v d ∧ d.showable = true ∧ d.hasDict = false ∧ d.shown.length ≤ sizeLine ∧ d.depth ≤ 64 ∧ Q (.str d.shown) H
theorem call_repr {X : Cx} (hg : X.A.guards = some []) (hu : X.A.units + 70 < cLine) : CallR X (.builtin "repr") (rRepr X.K) := by
  intro pins s z H xs us Q I r h
  obtain ⟨v, d, rfl, dp, hs, hnd, hsz, hdp, q⟩ := h
  match us, r with
  | [u], .cons rv .nil =>
    obtain ⟨as, rd⟩ := Dp.reads I d v u dp rv
    cases dp with
    | non => cases rv; exact PySem.P.repr_of_none ⟨.str _, H, I.tok _, ⟨_, rfl⟩, q⟩
    | bl b => cases rv; exact PySem.P.repr_of_bool ⟨.str _, H, I.tok _, ⟨_, rfl⟩, q⟩
    | int i =>
      obtain ⟨t, rfl⟩ := rv
      exact PySem.P.repr_of_int (by simpa [PyData.showable] using hs) ⟨.str _, H, I.tok _, ⟨_, rfl⟩, q⟩
    | str y =>
      obtain ⟨t, rfl⟩ := rv
      exact PySem.P.repr_of_str ⟨.str _, H, I.tok _, ⟨_, rfl⟩, q⟩ hsz
    | lst _ _ =>
      cases (show u = _ from rv)
      exact repr_of_reads' rd hs (PyData.noDict_hsm hnd) hg (by omega) (fun _ _ e => e) (fun h' u tk k => ⟨.str _, H, I.kept k, ⟨_, rfl⟩, q⟩) hsz
    | tup _ _ =>
      cases (show u = _ from rv)
      exact repr_of_reads' rd hs (PyData.noDict_hsm hnd) hg (by omega) (fun _ _ e => e) (fun h' u tk k => ⟨.str _, H, I.kept k, ⟨_, rfl⟩, q⟩) hsz
section
variable {X : Cx} {W : WX} {da db : DE} {dl : DL} {e : Expr}
theorem se_repr (hc : PE X e (tCB (rRepr X.K) (tCons (tE (gx X) W da) tNil))) : SE X W e (eRepr da) := by
  refine hc.dimp ?_
  rintro s H Q ⟨M, r, S, en, rh, p⟩
  refine ⟨M, r, S, en, rh, (Post.bind (R := RD (gx X)) p).imp fun v H1 h => ?_⟩
  obtain ⟨M1, x, S1, e1, rh1, rd1, p1⟩ := h
  split at p1
  · rename_i hk
    simp only [Bool.and_eq_true, decide_eq_true_eq] at hk
    obtain ⟨⟨hp, hs⟩, hz⟩ := hk
    obtain ⟨c1, c2⟩ := P_lay hp
    exact ⟨v, _, rfl, dp_flat rh1 hp rd1, hs, PyData.hasDict_of_canLay _ c1, hz, c2, p1 M1 _ H1 Ext.refl rh1 rfl⟩
  · exact p1.elim
/-! ### texts -/
theorem opb_eqS {G : Gx} : OpB G rEq (fun _ => cmpEqS) := by
  intro M S H x y b v u Q rh rx ry h q
  unfold cmpEqS at h
  cases x <;> cases y <;> first | (cases h; done) | skip
  cases (show v = _ from rx)
  cases (show u = _ from ry)
  cases h
  rename_i a c
  have e : decide (V.str a = V.str c) = decide (a = c) := by
    by_cases z : a = c
    · rw [z]; simp
    · simp [z]
  exact ⟨rfl, by rw [e]; exact q⟩
theorem opb_neS {G : Gx} : OpB G rNe (fun _ => cmpNeS) := by
  intro M S H x y b v u Q rh rx ry h q
  unfold cmpNeS at h
  cases x <;> cases y <;> first | (cases h; done) | skip
  cases (show v = _ from rx)
  cases (show u = _ from ry)
  cases h
  rename_i a c
  have e : decide (V.str a = V.str c) = decide (a = c) := by
    by_cases z : a = c
    · rw [z]; simp
    · simp [z]
  exact ⟨rfl, by rw [e]; exact q⟩
/-! ### max, min -/
theorem l1_max {G : Gx} : L1 G (rMax G.K) (fun t xs => if t then none else (intsOf xs).bind fun ns => (maxI ns).map D.int) := by
  intro M S H t xs p vs z Q rh hv rd e q
  cases t with
  | true => cases e
  | false =>
    simp only [Bool.false_eq_true, if_false] at e
    cases h : intsOf xs with
    | none => rw [h] at e; cases e
    | some ns =>
      rw [h, Option.bind_some] at e
      cases hm : maxI ns with
      | none => rw [hm] at e; cases e
      | some m =>
        rw [hm] at e
        cases e
        have ev := ints_ok rd h
        subst ev
        obtain ⟨m1, m2⟩ := maxI_spec hm
        refine ⟨p, ns, rfl, hv, List.length_pos_of_mem m1, fun k k1 k2 => ?_⟩
        have ek : k = m := by
          have a := m2 k k1
          have b := k2 m m1
          omega
        rw [ek]
        exact q M _ H Ext.refl rh rfl
theorem l1_min {G : Gx} : L1 G (rMin G.K) (fun t xs => if t then none else (intsOf xs).bind fun ns => (minI ns).map D.int) := by
  intro M S H t xs p vs z Q rh hv rd e q
  cases t with
  | true => cases e
  | false =>
    simp only [Bool.false_eq_true, if_false] at e
    cases h : intsOf xs with
    | none => rw [h] at e; cases e
    | some ns =>
      rw [h, Option.bind_some] at e
      cases hm : minI ns with
      | none => rw [hm] at e; cases e
      | some m =>
        rw [hm] at e
        cases e
        have ev := ints_ok rd h
        subst ev
        obtain ⟨m1, m2⟩ := minI_spec hm
        refine ⟨p, ns, rfl, hv, List.length_pos_of_mem m1, fun k k1 k2 => ?_⟩
        have ek : k = m := by
          have a := m2 k k1
          have b := k2 m m1
          omega
        rw [ek]
        exact q M _ H Ext.refl rh rfl
end
end Dn

end
section
set_option Elab.async false
set_option linter.all false
set_option maxRecDepth 100000
set_option maxHeartbeats 4000000
/-! x[::-1] of lists and tuples; list(range(..)), tuple(range(..)). -/
namespace HT
open PySem PySem.Spec PyProof.Rows
section
variable {prog : Program} {w : World} {A : Around} {E : Value → Shared → Prop} {s : Shared}
theorem applied_rev {sl : Addr} {vl vu vs : Value} {n : Nat} {Q : Int × Int × Nat → Shared → Prop} (hs : s.heap.IsSliceOf sl vl vu vs) (pl : IsPart vl none) (pu : IsPart vu none) (ps : IsPart vs (some (-1)))
    (h : Q ((n : Int) - 1, -1, n) s) : wpAny (model prog w) A (Builtin.Slice.sliceApplied (.ref sl) (pure (n : Int))) Q E s := by
  obtain ⟨os, hos, hcs, hds⟩ := id hs
  have places : Builtin.Slice.slicePlaces ((n : Int) - 1) (-1) (-1) = n := by
    unfold Builtin.Slice.slicePlaces
    rw [if_neg (by omega)]
    by_cases hn : n = 0
    · subst hn; rfl
    · rw [if_pos (by omega)]
      have e : ((n : Int) - 1 - -1 - 1) / (- -1) + 1 = (n : Int) := by
        rw [show (- -1 : Int) = 1 from rfl, Int.ediv_one]
        omega
      rw [e]
      exact Int.toNat_natCast n
  have adj : Builtin.Slice.sliceAdjust none none (-1) (n : Int) = ((n : Int) - 1, -1) := rfl
  unfold Builtin.Slice.sliceApplied Builtin.Slice.sliceFields
  refine wpAny_bind (wpAny_bind (wpAny_field hos hds (x := vl) rfl (wpAny_bind (wpAny_field hos hds (x := vu) rfl (wpAny_bind (wpAny_field hos hds (x := vs) rfl (wpAny_pure ?_)))))))
  refine wpAny_bind (slicePart_ ps ?_)
  show wpAny _ _ (if ((-1 : Int) == 0) = true then _ else _) _ _ s
  rw [if_neg (by decide)]
  refine wpAny_bind (slicePart_ pl (wpAny_bind (slicePart_ pu (wpAny_bind (wpAny_pure ?_)))))
  show wpAny _ _ (match Builtin.Slice.sliceAdjust none none (-1) (n : Int) with | (a, b) => pure (a, (-1 : Int), Builtin.Slice.slicePlaces a b (-1))) _ _ s
  rw [adj]
  show wpAny _ _ (pure ((n : Int) - 1, (-1 : Int), Builtin.Slice.slicePlaces ((n : Int) - 1) (-1) (-1))) _ _ s
  rw [places]
  exact wpAny_pure h
theorem fm_congr {α β : Type} {f g : α → Option β} : ∀ {l : List α}, (∀ m ∈ l, f m = g m) → l.filterMap f = l.filterMap g
  | [], _ => rfl
  | x :: l, h => by
    have ih := fm_congr (l := l) fun m hm => h m (List.mem_cons_of_mem _ hm)
    rw [List.filterMap_cons, List.filterMap_cons, h x (List.mem_cons_self ..), ih]
theorem pick_rev (xs : Array Value) : ((List.range xs.size).filterMap fun (m : Nat) => xs[(((xs.size : Int) - 1) + (m : Int) * -1).toNat]?).toArray = xs.toList.reverse.toArray := by
  have e : (List.range xs.size).filterMap (fun (m : Nat) => xs[(((xs.size : Int) - 1) + (m : Int) * -1).toNat]?) = ((List.range xs.size).map fun k => xs.size - 1 - k).filterMap (xs[·]?) := by
    rw [List.filterMap_map]
    refine fm_congr fun m hm => ?_
    have := List.mem_range.mp hm
    have z : (((xs.size : Int) - 1) + (m : Int) * -1).toNat = xs.size - 1 - m := by omega
    simp only [Function.comp_apply, z]
  rw [e, PySem.W.krv_range, List.filterMap_reverse, PySem.W.krv_all]
theorem getItem_tuple_rev {t sl : Addr} {items : Array Value} {vl vu vs : Value} {Q : Value → Shared → Prop} (ht : IsTup s.heap t items) (hs : s.heap.IsSliceOf sl vl vu vs) (pl : IsPart vl none) (pu : IsPart vu none) (ps : IsPart vs (some (-1)))
    (h : Q (.ref s.heap.objs.size) { s with heap := s.heap.push { cls := .type "tuple", data := .seq items.toList.reverse.toArray } }) (hsz : items.size ≤ sizeLine) : wpAny (model prog w) A (getItem (.ref t) (.ref sl)) Q E s := by
  have fits : sizeOk (.seq items.toList.reverse.toArray) := by
    show items.toList.reverse.toArray.size ≤ sizeLine
    rw [List.size_toArray, List.length_reverse, Array.length_toList]
    exact hsz
  have hTs : s.TypeIs (.ref sl) "slice" := by
    obtain ⟨os, hos, hcs, _⟩ := hs
    exact ⟨os, hos, hcs⟩
  unfold getItem
  try with_reducible refine wpAny_holding ?_
  first | refine wpAny_bind (wpAny_pure ?_) | skip
  refine wpAny_bind (wpAny_sequenceKey ht.typeIs (by decide) ?_)
  refine wpAny_bind (wpAny_callSpecial?_slot (name := Str.ofString "__getitem__") ht.typeIs PyProof.Rows.slot_tuple_getitem (wpAny_call_entry PyProof.Rows.slot_tuple_getitem ht.typeIs entry_tuple_getitem ?_ (args_tuple_getitem _ _)))
  show wpAny _ _ (Builtin.Tuple.tupleItemsOf (.ref t) >>= _) _ _ s
  refine wpAny_bind (tupleItemsOf_ ht (wpAny_bind (wpAny_typeOf hTs ?_)))
  rw [if_pos (by decide)]
  refine wpAny_bind (applied_rev hs pl pu ps ?_)
  have no : ¬ ((((items.size : Int) - 1) == 0 && (-1 : Int) == 1 && items.size == items.size) = true) := by
    simp
  show wpAny _ _ (if ((((items.size : Int) - 1) == 0 && (-1 : Int) == 1 && items.size == items.size) = true) then _ else _) _ _ s
  rw [if_neg no, pick_rev]
  first
    | exact wpAny_bind (m := Builtin.Tuple.tupleExact _) (wpAny_newObj_type (wpAny_pure ⟨_, rfl, wpAny_pure h⟩) fits)
    | exact wpAny_bind (m := Builtin.Tuple.tupleExact _) (wpAny_newObj_type (wpAny_bind (wpAny_pure (wpAny_pure ⟨_, rfl, wpAny_pure h⟩))) fits)
    | exact wpAny_bind (wpAny_bind (m := Builtin.Tuple.tupleExact _) (wpAny_newObj_type (wpAny_pure (wpAny_pure ⟨_, rfl, wpAny_pure h⟩)) fits))
    | exact wpAny_bind (wpAny_bind (m := Builtin.Tuple.tupleExact _) (wpAny_newObj_type (wpAny_pure ⟨_, rfl, wpAny_pure h⟩) fits))
end
end HT

namespace Dn
open PySem PySem.Spec PyProof.Rows L2
variable [Tb]
def tRevA (K : PySem.W.Frag) (te : TE) : TE := fun s H Q => te s H fun x H1 => ∃ a xs, x = .ref a ∧ ((SqL K H1 a xs ∧ ∀ p, H1 p = none → Q (.ref p) (upd H1 p (.lst xs.reverse))) ∨ (SqT K H1 a xs ∧ ∀ p, H1 p = none → Q (.ref p) (upd H1 p (.tup xs.reverse))))
section
variable {X : Cx} {W : WX} {dl : DL} {da db : DE} {ds : DA} {e : Expr}
theorem pe_revA {te : TE} {k : Nat} {p1 p2 p3 pos : Pos} (he : PE X e te) : PE X (.Subscript e (.Slice none none (some (.UnaryOp .USub (.Constant (.int 1) k p1) p2)) p3) pos) (tRevA X.K te) := by
  constructor
  intro pins s z H Q I h
  refine Subscript_ (thn (he.run pins s z H _ I h) fun v s1 hh => ?_)
  obtain ⟨x, H1, I1, r1, a, xs, ex, q⟩ := hh
  subst ex
  cases r1
  have st : PO X (some (.UnaryOp .USub (.Constant (.int 1) k p1) p2)) (tPart (tUn (rU fun i => .int (-i)) (tC (.int 1)))) := po_some (pe_un un_neg pe_int)
  refine wpAny_Slice (thn (po_none.run pins s1 z H1 (fun o H2 => o = none ∧ H2 = H1) I1 ⟨rfl, rfl⟩) fun vl s2 hl => ?_)
  obtain ⟨l, H2, I2, pl, rfl, rfl⟩ := hl
  refine thn (po_none.run pins s2 z H2 (fun o H3 => o = none ∧ H3 = H2) I2 ⟨rfl, rfl⟩) fun vu s3 hu => ?_
  obtain ⟨u, H3, I3, pu, rfl, rfl⟩ := hu
  refine thn (st.run pins s3 z H3 (fun o H4 => o = some (-1) ∧ H4 = H3) I3 ⟨1, rfl, -1, rfl, rfl, rfl⟩) fun vs s4 hs => ?_
  obtain ⟨o, H4, I4, ps, rfl, rfl⟩ := hs
  have I5 : Inv X pins z H4 { s4 with heap := s4.heap.push { cls := .type "slice", data := .fields #[vl, vu, vs] } } := I4.kept (t' := s4.toks) fun b ob q => Heap.get?_push_of_some _ q
  rcases q with ⟨hx, q⟩ | ⟨hx, q⟩
  · obtain ⟨its, r, ht, hz⟩ := I5.list hx
    have hlen := r.length
    show wpAny (model X.prog X.w) X.A (subscriptTail e (.Slice none none (some (.UnaryOp .USub (.Constant (.int 1) k p1) p2)) p3) (.ref a) (.ref s4.heap.objs.size)) _ _ { s4 with heap := s4.heap.push { cls := .type "slice", data := .fields #[vl, vu, vs] } }
    refine tail_any (ops := [.ref a, .ref s4.heap.objs.size]) ht.isList.typeIs (PySem.slot_list_getitem.lookup) ?_ (by with_unfolding_all rfl)
    refine wpAny_getItem_list_slice ht.isList (Heap.IsSliceOf.new _ vl vu vs) pl pu ps (by decide) ?_ (by rw [List.size_toArray]; omega)
    rw [PySem.W.krv_pick]
    have J := I5.laid (t' := s4.toks) (o := .lst xs.reverse) (h' := (s4.heap.push { cls := .type "slice", data := .fields #[vl, vu, vs] }).push { cls := .type "list", data := .seq its.reverse.toArray }) (fun b ob q => Heap.get?_push_of_some _ q) (Nat.le_refl _) ⟨by rw [List.length_reverse]; exact hz, _, 0, r.reverse, Heap.get?_push_size _ rfl⟩
    exact ⟨.ref _, _, J, rfl, q _ (I5.hok.fresh (Nat.le_refl _))⟩
  · obtain ⟨its, r, ht, hz⟩ := I5.tuple hx
    have hlen := r.length
    show wpAny (model X.prog X.w) X.A (subscriptTail e (.Slice none none (some (.UnaryOp .USub (.Constant (.int 1) k p1) p2)) p3) (.ref a) (.ref s4.heap.objs.size)) _ _ { s4 with heap := s4.heap.push { cls := .type "slice", data := .fields #[vl, vu, vs] } }
    refine tail_any (ops := [.ref a, .ref s4.heap.objs.size]) ht.typeIs (PyProof.Rows.slot_tuple_getitem.lookup) ?_ (by with_unfolding_all rfl)
    refine HT.getItem_tuple_rev ht (Heap.IsSliceOf.new _ vl vu vs) pl pu ps ?_ (by rw [List.size_toArray]; omega)
    have J := I5.laid (t' := s4.toks) (o := .tup xs.reverse) (h' := (s4.heap.push { cls := .type "slice", data := .fields #[vl, vu, vs] }).push { cls := .type "tuple", data := .seq its.reverse.toArray }) (fun b ob q => Heap.get?_push_of_some _ q) (Nat.le_refl _) ⟨by rw [List.length_reverse]; exact hz, _, r.reverse, IsTup.new _ _⟩
    exact ⟨.ref _, _, J, rfl, q _ (I5.hok.fresh (Nat.le_refl _))⟩
theorem rg_rel {G : Gx} {M : Mp} (i j : Int) : RelDs G M (rgI i j) (rgV i j) := by
  unfold rgI rgV
  generalize (j - i).toNat = n
  generalize List.range n = l
  induction l with
  | nil => exact RelDs.nil
  | cons k l ih => exact RelDs.cons rfl ih
theorem rg_of {i j : Int} (h : rgOk i j = true) : RgOk i j := by
  simp only [rgOk, rOk, Bool.and_eq_true, decide_eq_true_eq] at h
  exact ⟨h.1.1.1, h.1.1.2, h.1.2.1, h.1.2.2, h.2⟩
def tRgD (G : Gx) (W : WX) (d : DA) : L2.St → Hp → (Int → Int → Hp → Prop) → Prop := fun s H Q => ∃ M r S, EnvR G M H r s ∧ RelH G M S H ∧ Post G (fun _ _ xs (ij : Int × Int) => xs = rgI ij.1 ij.2 ∧ rgOk ij.1 ij.2 = true) W M H s (d r S) fun ij H => Q ij.1 ij.2 H
def PRgD (X : Cx) (W : WX) (e : Expr) (d : DA) : Prop := PRg X e (tRgD (gx X) W d)
theorem PRg_dimp {e : Expr} {t t' : L2.St → Hp → (Int → Int → Hp → Prop) → Prop} (h : PRg X e t) (k : ∀ s H Q, t' s H Q → t s H Q) : PRg X e t' := fun pins s σ H Q I q => h pins s σ H Q I (k σ H Q q)
theorem rg1 (h : PRg X e (tRg1 (tE (gx X) W da))) : PRgD X W e (nRg1 da) := by
  refine PRg_dimp h ?_
  rintro s H Q ⟨M, r, S, en, rh, p⟩
  refine ⟨M, r, S, en, rh, (Post.bind (R := RD (gx X)) p).imp fun v H1 h => ?_⟩
  obtain ⟨M1, x, S1, e1, rh1, rd1, p1⟩ := h
  cases x with
  | int j =>
    cases (show v = _ from rd1)
    dsimp only at p1
    split at p1
    · rename_i hk
      exact ⟨j, rfl, p1 M1 (0, j) H1 Ext.refl rh1 ⟨rfl, hk⟩⟩
    · exact p1.elim
  | _ => exact p1.elim
theorem rg2 (h : PRg X e (tRg2 (tE (gx X) W da) (tE (gx X) W db))) : PRgD X W e (nRg2 da db) := by
  refine PRg_dimp h ?_
  rintro s H Q ⟨M, r, S, en, rh, p⟩
  refine ⟨M, r, S, en, rh, (Post.bind (R := RD (gx X)) p).imp fun v H1 h => ?_⟩
  obtain ⟨M1, x, S1, e1, rh1, rd1, p1⟩ := h
  refine ⟨M1, r, S1, en.mono e1, rh1, (Post.bind (R := RD (gx X)) p1).imp fun u H2 h => ?_⟩
  obtain ⟨M2, y, S2, e2, rh2, rd2, p2⟩ := h
  cases x <;> cases y <;> first | exact p2.elim | skip
  rename_i i j
  cases (show v = _ from rd1)
  cases (show u = _ from rd2)
  dsimp only at p2
  split at p2
  · rename_i hk
    exact ⟨i, j, rfl, rfl, p2 M2 (i, j) H2 Ext.refl rh2 ⟨rfl, hk⟩⟩
  · exact p2.elim
theorem sn_rg {p pos : Pos} (hc : X.calm = true) (hg : Gl X "list") (hm : X.mg "list" = none) (he : PRgD X W e ds) (na : starEach [e] X.env = (false, eval e X.env) :: starEach [] X.env := by rfl) : SN X W (.Call (.Name "list" p) [e] [] pos) ds := by
  refine (pe_listRg hc hg hm he na).dimp ?_
  rintro s H Q ⟨M, r, S, en, rh, p⟩
  refine ⟨M, r, S, en, rh, ?_⟩
  cases q : ds r S with
  | exc c fs S1 => rw [q] at p; exact p
  | bad => rw [q] at p; exact p.elim
  | ok xs S1 =>
    rw [q] at p
    rintro M1 ⟨i, j⟩ H1 e1 rh1 ⟨rfl, hk⟩
    refine ⟨rg_of hk, fun a ha => ?_⟩
    exact p M1 (.ref a) _ (e1.trans (Ext.other ha)) (rh1.other ha) ⟨a, rgV i j, rfl, upd_same, rg_rel i j, rh1.noloc ha, rh1.nolst ha, by
      cases z : H a with
      | none => rfl
      | some o =>
        obtain ⟨o', e'⟩ := e1.there a o z
        rw [ha] at e'; cases e'⟩
theorem se_tupRg {p pos : Pos} (hc : X.calm = true) (hg : Gl X "tuple") (hm : X.mg "tuple" = none) (he : PRgD X W e ds) (na : starEach [e] X.env = (false, eval e X.env) :: starEach [] X.env := by rfl) : SE X W (.Call (.Name "tuple" p) [e] [] pos) (eTupA ds) := by
  refine (pe_tupRg hc hg hm he na).dimp ?_
  rintro s H Q ⟨M, r, S, en, rh, p⟩
  refine ⟨M, r, S, en, rh, ?_⟩
  unfold eTupA at p
  cases q : ds r S with
  | exc c fs S1 => rw [q] at p; exact p
  | bad => rw [q] at p; exact p.elim
  | ok xs S1 =>
    rw [q] at p
    rintro M1 ⟨i, j⟩ H1 e1 rh1 ⟨rfl, hk⟩
    refine ⟨rg_of hk, fun a ha => ?_⟩
    obtain ⟨M2, e2, rh2, rd2⟩ := Ext.tupNew rh1 ha (rg_rel (G := gx X) i j)
    exact p M2 _ _ (e1.trans e2) rh2 rd2
theorem RelDs.reverse {G : Gx} {M : Mp} : ∀ {ds : List D} {vs : List V}, RelDs G M ds vs → RelDs G M ds.reverse vs.reverse
  | [], _, h => by cases (show _ = [] from h); exact RelDs.nil
  | d :: ds, _, h => by
    obtain ⟨v, r, rfl, h1, h2⟩ := h
    simp only [List.reverse_cons]
    exact (RelDs.reverse h2).append (.cons h1 .nil)
theorem se_rev {k : Nat} {p1 p2 p3 pos : Pos} (ha : SL X W e dl) : SE X W (.Subscript e (.Slice none none (some (.UnaryOp .USub (.Constant (.int 1) k p1) p2)) p3) pos) (eRev dl) := by
  refine (pe_revA ha).dimp ?_
  rintro s H Q ⟨M, r, S, en, rh, p⟩
  refine ⟨M, r, S, en, rh, (Post.bind (R := RSrc (gx X) s) p).imp fun v H1 h => ?_⟩
  obtain ⟨M1, c, S1, e1, rh1, rd1, p1⟩ := h
  cases q : c.get r S1 with
  | none => rw [q] at p1; exact p1.elim
  | some xs =>
    rw [q] at p1
    obtain ⟨a, vs, rfl, h1, h2⟩ := src_ok rh1 (en.mono e1) rd1 q
    have p1 : Post (gx X) (RD (gx X)) W M1 H1 s (.ok (if c.isT then .tup xs.reverse else .lst xs.reverse) S1) Q := p1
    refine ⟨a, vs, rfl, ?_⟩
    cases ht : c.isT with
    | true =>
      rw [ht] at h1 p1
      refine .inr ⟨h1, fun p hp => ?_⟩
      obtain ⟨M2, e2, rh2, rd2⟩ := Ext.tupNew rh1 hp h2.reverse
      exact p1 M2 _ _ e2 rh2 rd2
    | false =>
      rw [ht] at h1 p1
      refine .inl ⟨h1, fun p hp => ?_⟩
      obtain ⟨M2, e2, rh2, rd2⟩ := Ext.lstNew rh1 hp h2.reverse
      exact p1 M2 _ _ e2 rh2 rd2
end
end Dn

end
section
set_option Elab.async false
set_option linter.all false
set_option maxRecDepth 100000
set_option maxHeartbeats 4000000
/-! Own classes: isinstance(_, C), == and != by a method. -/
namespace Dn
open PySem PySem.Spec PyProof.Rows L2
section
variable {prog : Program} {w : World} {A : Around} {E : Value → Shared → Prop} {s : Shared} {K : PySem.W.Frag} {x C f : Addr} {ox : Obj} {od : Option Obj}
theorem ifBound_objNe {args : List Value} {Q : Option Value → Shared → Prop} (X : K.In s.heap) (I : PySem.W.InstAt s.heap x ox C od) (hs : PySem.W.findIn K (.ref C) "__ne__" = some (some (.builtin "object.__ne__")))
    (h : wpAny (model prog w) A (call (.builtin "object.__ne__") (.ref x :: args)) (fun v => Q (some v)) E s) : wpAny (model prog w) A (callSpecialIfBound? (.ref x) "__ne__" args) Q E s := by
  simp only [callSpecialIfBound?, bindSpecialIfBound?]
  refine wpAny_holding (wpAny_bind (wpAny_bind (wpAny_bind (I.type.here ((PySem.W.looks_findIn X hs).here ?_)))))
  refine wpAny_bind (wpAny_askSetting (wpAny_ite ?_))
  have fin : wpAny (model prog w) A (call (.builtin "object.__ne__") ([.ref x] ++ args) >>= fun v => pure (some v)) Q E s := wpAny_bind (wpAny_mono h (fun v s' h' => wpAny_pure h') fun _ _ h' => h')
  split
  · exact wpAny_bind (wpAny_of_eq (F.cmp_object.ne.bind _) (wpAny_pure (by exact fin)))
  · exact wpAny_tryCatch (wpAny_bind (wpAny_of_eq (F.cmp_object.ne.bind _) (wpAny_pure (by exact fin))))
theorem objNe_entryK {b : Value} {Q : Fin → Shared → Prop} (X : K.In s.heap) (I : PySem.W.InstAt s.heap x ox C od) (n : OeqK K C f) (hu : A.units < cLine)
    (h : wpAny (model prog w) A (call (.ref f) [.ref x, b]) (fun v s' => ∃ q, v = .bool q ∧ Q (.done (.ret (.bool (!q)))) s') E s) :
    wpAny (model prog w) A (Builtin.«object.__ne__» ⟨[.ref x, b], []⟩) Q E s := by
  unfold Builtin.«object.__ne__»
  repeat (first
    | with_reducible refine wpAny_cRoomFor hu ?_
    | (refine wpAny_bind (m := callSpecialIfBound? (.ref x) (Str.ofString "__eq__") [b])
        (PySem.W.ifBound_K X I n.eq n.fn (wpAny_mono h (fun r s' hr => by
          obtain ⟨b, rfl, hq⟩ := hr
          repeat (first | exact hq | exact wpAny_pure hq | exact wpAny_truthy_bool hq | (refine wpAny_bind (m := truthy (.bool _)) (wpAny_truthy_bool ?_)) | wp_step)) fun _ _ e => e)))
    | wp_step)
theorem cmp_Kne {Q : Value → Shared → Prop} {b tb : Value} (hu : A.units < cLine) (hu1 : A.in1.units < cLine) (X : K.In s.heap) (I : PySem.W.InstAt s.heap x ox C od) (hb : PySem.W.Looks (model prog w) s.heap (typeOf b) tb) (hn : PySem.W.notFirst K C tb = true)
    (n : OeqK K C f) (h : wpAny (model prog w) A.in1 (call (.ref f) [.ref x, b]) (fun v s' => ∃ q, v = .bool q ∧ Q (.bool (!q)) s') E s) : wpAny (model prog w) A (richCompare .NotEq (.ref x) b) Q E s := by
  have one : wpAny (model prog w) A (tryCompare (.ref x) "__ne__" b) (fun r s' => ∃ v, r = some v ∧ Q v s') E s := by
    unfold tryCompare
    refine wpAny_bind (ifBound_objNe X I n.ne (wpAny_call (codeAny_call_builtin F.cmp_object.ne.plain F.cmpEntry_ne (PySem.W.check_slot F.cmpKind_ne F.cmpSplit_ne (I.type.andThen (PySem.W.looks_mroIn X n.mr)) (F.cmpArgs_ne _ _) (objNe_entryK X I n hu1 (wpAny_mono h (fun v s' hv => ?_) fun _ _ e => e))))))
    obtain ⟨q, rfl, hq⟩ := hv
    first | exact ⟨q, rfl, wpAny_pure ⟨_, rfl, hq⟩⟩ | exact ⟨q, rfl, ⟨_, rfl, hq⟩⟩ | exact ⟨q, rfl, wpAny_pure (wpAny_pure ⟨_, rfl, hq⟩)⟩
  unfold richCompare
  simp only [oneThing_ref]
  refine wpAny_holding (wpAny_bind (wpAny_cRoomFor hu ?_))
  rw [cmpInfo_NotEq]
  dsimp only
  refine wpAny_bind (I.type.here (wpAny_bind (hb.here ?_)))
  split
  · rename_i q
    have e : PySem.W.subIn K tb (.ref C) = some false := by
      rcases Bool.or_eq_true_iff.mp hn with e | e
      · rw [beq_iff_eq.mp e] at q; simp at q
      · exact beq_iff_eq.mp e
    refine wpAny_bind ((PySem.W.looks_subIn X e).here ?_)
    simp only [Bool.false_eq_true, if_false]
    refine wpAny_bind (wpAny_mono one (fun r s' z => ?_) fun _ _ e => e)
    obtain ⟨v, rfl, hq⟩ := z
    exact wpAny_pure hq
  · refine wpAny_bind (wpAny_pure ?_)
    simp only [Bool.false_eq_true, if_false]
    refine wpAny_bind (wpAny_mono one (fun r s' z => ?_) fun _ _ e => e)
    obtain ⟨v, rfl, hq⟩ := z
    exact wpAny_pure hq
end
variable [Tb]
/-- what stands on the right of an own == -/
def eqRight (c : Str) (S : Store) (y : D) : Bool := (tyName S y).isSome || match y with
  | .ref l => (match S[l]? with
    | some (.ins c' _) => decide (c' = c)
    | _ => false)
  | _ => false
/-- == or != by the method of the left one -/
def eOwnEq (c : Str) (neg : Bool) (g : Fn) (a b : DE) : DE := fun r S => (a r S).bind fun x S => (b r S).bind fun y S => match x with
  | .ref l => (match S[l]? with
    | some (.ins c' _) => if c' = c ∧ eqRight c S y = true then (match g [x, y] S with
        | .ok (.bl z) S => .ok (.bl (if neg then !z else z)) S
        | _ => .bad) else .bad
    | _ => .bad)
  | _ => .bad
/-- what the comparison asks -/
def rOwnEq (K : PySem.W.Frag) (C : Addr) (neg : Bool) (sp : Sp) : R2 := fun x y H Q => ∃ a dx fs t, x = .ref a ∧ H a = some (.ins C dx fs) ∧ TyX K H y t ∧ PySem.W.notFirst K C t = true ∧ sp [x, y] H (fun v H' => ∃ z, v = .bl z ∧ Q (.bl (if neg then !z else z)) H') (fun _ _ _ => False)
section
variable {X : Cx} {C f : Addr} {fd : FuncData} {k : Nat} {ps : List Str} {sp : Sp}
theorem op_ownEq {neg : Bool} (n : OeqK X.K C f) (F : FnG X.prog X.w X.K X.mg X.base (L2.CX X.prog X.w) k f fd ps sp) (hr : RoomG (k + 1) X.A) (hb : Binds X.K fd ps []) : OpR X (compareOp (if neg then .NotEq else .Eq)) (rOwnEq X.K C neg sp) := by
  intro pins s σ H x y v u Q I rx ry h
  obtain ⟨a, dx, fs, t, rfl, ha, ht, hn, hsp⟩ := h
  obtain rfl : v = Value.ref a := rx
  obtain ⟨mA, J, _⟩ := ins_get I.hok ha
  obtain ⟨od, J, _⟩ := J.look
  obtain ⟨m, hF⟩ := I.fr
  obtain ⟨P, Z, hP, _⟩ := kit_of I ry ht
  have hl := F.len _ _ _ _ hsp
  have bd := hb s [.ref a, u] I.kIn (by simpa using hl)
  simp only [List.append_nil] at bd
  have go : ∀ A : Around, RoomG k A → A.frames = X.A.frames → ∀ {R : Value → Shared → Prop}, (∀ z s', (EP X pins σ (fun v H' => v = .bl z ∧ Q (.bl (if neg then !z else z)) H')) (.bool z) s' → R (.bool z) s') → wpAny (model X.prog X.w) A (call (.ref f) [.ref a, u]) R X.xe s := by
    intro A hA fr R hR
    have e0 : Env0 X.prog X.w X.K X.mg X.base A X.stack s H := by
      have e := I.env0
      exact ⟨by rw [fr]; exact e.frames, e.mod, e.bs, e.bsz, e.funs, e.frf, e.hok, e.bare⟩
    refine wpAny_call (codeAny_mono (F.run A X.stack s H ⟨[.ref a, u], []⟩ [.ref a, u] [.ref a, y] _ _ hA e0 bd (.cons rfl (.cons ry .nil)) hsp) ?_)
    intro res s' hq
    match res, hq with
    | .error ex, hq =>
      obtain ⟨_, _, _, _, _, _, _, _, _, _, _, _, z⟩ := hq
      exact z.elim
    | .ok .next, hq => exact hq.elim
    | .ok .brk, hq => exact hq.elim
    | .ok .cont, hq => exact hq.elim
    | .ok (.ret u2), hq =>
      obtain ⟨z, H', I', rz, b, ez, ex⟩ := I.after hq
      subst ez
      obtain rfl : u2 = Value.bool b := rz
      exact hR b s' ⟨.bl b, H', I', rfl, rfl, ex⟩
  have hu := hr.r.units0
  cases neg with
  | false =>
    refine PySem.W.cmp_K (op := .Eq) (tb := t) hu hF I.ok.mod.kin J (Z.ty _ _ I.kIn hP) hn n.eq n.fn ?_
    refine go X.A (hr.mono (Nat.le_succ k)) rfl fun z s' hz => ?_
    obtain ⟨v, H', I', rv, rfl, q⟩ := hz
    exact ⟨.bl z, H', I', rfl, q⟩
  | true =>
    refine cmp_Kne (tb := t) hu (by have := hr.r.un; show X.A.units + 1 < _; omega) I.kIn J (Z.ty _ _ I.kIn hP) hn n ?_
    refine go X.A.in1 ⟨hr.r.in1, hr.g⟩ rfl fun z s' hz => ?_
    obtain ⟨v, H', I', rv, rfl, q⟩ := hz
    exact ⟨z, rfl, .bl (!z), H', I', rfl, q⟩
theorem notFirst_ty {K : PySem.W.Frag} (n : OeqK K C f) {S : Store} {y : D} {t : String} (h : tyName S y = some t) : PySem.W.notFirst K C (.type t) = true := by
  have hm : t ∈ tys := by
    cases y with
    | non => cases h; simp [tys]
    | bl _ => cases h; simp [tys]
    | int _ => cases h; simp [tys]
    | str _ => cases h; simp [tys]
    | tup _ => cases h; simp [tys]
    | lst _ => cases h; simp [tys]
    | ref l =>
      dsimp only [tyName] at h
      split at h
      · cases h; simp [tys]
      · cases h; simp [tys]
      · cases h
    | cls _ => cases h
    | fn _ => cases h
  simp [PySem.W.notFirst, n.ty t hm]
theorem ownEq_t {W : WX} {c : Str} {g : Fn} {neg : Bool} {da db : DE} (hC : X.mg c = some (.ref C)) (cl : Cls X.K C) (ik : InsK X.K C) (n : OeqK X.K C f) {s : L2.St} {H : Hp} {Q : VK} (h : tE (gx X) W (eOwnEq c neg g da db) s H Q) : tOp (rOwnEq X.K C neg (spD (gk X.K X.mg) g)) (tE (gx X) W da) (tE (gx X) W db) s H Q := by
  obtain ⟨M, r, S, en, rh, p⟩ := h
  refine ⟨M, r, S, en, rh, (bind2 en p).imp fun v H1 h => ?_⟩
  obtain ⟨M1, S1, e1, rh1, en1, p1⟩ := h
  refine ⟨M1, r, S1, en1, rh1, p1.imp fun u H2 h => ?_⟩
  obtain ⟨M2, x, y, S2, e2, rh2, en2, rd1, rd2, p2⟩ := h
  cases x with
  | ref l =>
    dsimp only at p2
    cases q : S2[l]? with
    | none => rw [q] at p2; exact p2.elim
    | some o =>
      rw [q] at p2
      cases o with
      | lst _ => exact p2.elim
      | dct _ _ => exact p2.elim
      | ins c' fs =>
        dsimp only at p2
        split at p2
        · rename_i hc
          obtain ⟨rfl, hright⟩ := hc
          have rd1' := rd1
          obtain ⟨pa, rfl, h1⟩ := rd1
          obtain ⟨a2, x1, C2, dx, vfs, x2, x3, x4⟩ := rh2.obj l _ q
          rw [h1] at x1; cases x1
          have x3 : X.mg c' = some (.ref C2) := x3
          rw [hC] at x3
          cases x3
          have hty : ∃ t, TyX X.K H2 u t ∧ PySem.W.notFirst X.K C t = true := by
            cases q2 : tyName S2 y with
            | some t => exact ⟨_, ty_ok rh2 rd2 q2, notFirst_ty n q2⟩
            | none =>
              unfold eqRight at hright
              rw [q2] at hright
              cases y with
              | ref l2 =>
                dsimp only at hright
                cases q3 : S2[l2]? with
                | none => rw [q3] at hright; cases hright
                | some o2 =>
                  rw [q3] at hright
                  cases o2 with
                  | lst _ => cases hright
                  | dct _ _ => cases hright
                  | ins c2 fs2 =>
                    have e : c2 = c' := by simpa using hright
                    subst e
                    obtain ⟨pb, rfl, h2⟩ := rd2
                    obtain ⟨a3, y1, C3, dx3, vfs3, y2, y3, y4⟩ := rh2.obj l2 _ q3
                    rw [h2] at y1; cases y1
                    have y3 : X.mg c2 = some (.ref C3) := y3
                    rw [hC] at y3
                    cases y3
                    exact ⟨.ref C, .base (.ins y2 cl ik.ha ik.hn ik.htk ik.hm), by simp [PySem.W.notFirst]⟩
              | _ => cases hright
          obtain ⟨t, t1, t2⟩ := hty
          refine ⟨pa, dx, vfs, t, rfl, x2, t1, t2, ?_⟩
          cases qg : g [.ref l, y] S2 with
          | bad => rw [qg] at p2; exact p2.elim
          | exc _ _ _ => rw [qg] at p2; exact p2.elim
          | ok z S3 =>
            rw [qg] at p2
            cases z with
            | bl z =>
              refine spD_at (W := fun _ _ _ _ => False) (s := s) (xs := [.ref l, y]) (RelDs.cons rd1' (RelDs.cons rd2 rfl)) rh2 (fun _ _ _ h => h) ?_
              rw [qg]
              intro M3 v H3 e3 rh3 rd3
              cases (show _ = _ from rd3)
              exact ⟨z, rfl, p2 M3 _ H3 e3 rh3 rfl⟩
            | _ => exact p2.elim
        · exact p2.elim
  | _ => exact p2.elim
theorem se_ownEq {W : WX} {c : Str} {g : Fn} {neg : Bool} {a b : Expr} {da db : DE} {pos : Pos} (hC : X.mg c = some (.ref C)) (cl : Cls X.K C) (ik : InsK X.K C) (n : OeqK X.K C f) (F : FnG X.prog X.w X.K X.mg X.base (L2.CX X.prog X.w) k f fd ps (spD (gk X.K X.mg) g)) (hr : RoomG (k + 1) X.A) (hb : Binds X.K fd ps [])
    (ha : SE X W a da) (hb' : SE X W b db) (hm : behindInMarks (if neg then .NotEq else .Eq) b = false) : SE X W (.Compare a [if neg then .NotEq else .Eq] [b] pos) (eOwnEq c neg g da db) :=
  (pe_cmpR (op_ownEq (neg := neg) n F hr hb) ha hb' hm).dimp fun _ _ _ => ownEq_t hC cl ik n
theorem st_ownEq {W : WX} {c : Str} {g : Fn} {neg : Bool} {a b : Expr} {da db : DE} {pos : Pos} (hC : X.mg c = some (.ref C)) (cl : Cls X.K C) (ik : InsK X.K C) (n : OeqK X.K C f) (F : FnG X.prog X.w X.K X.mg X.base (L2.CX X.prog X.w) k f fd ps (spD (gk X.K X.mg) g)) (hr : RoomG (k + 1) X.A) (hb : Binds X.K fd ps [])
    (ha : SE X W a da) (hb' : SE X W b db) (hm : behindInMarks (if neg then .NotEq else .Eq) b = false) : ST X W (.Compare a [if neg then .NotEq else .Eq] [b] pos) (tOfB (eOwnEq c neg g da db)) :=
  (pt_cmpR (op_ownEq (neg := neg) n F hr hb) ha hb' hm).dimp fun _ _ _ h => ownEq_t hC cl ik n (tofb_t h)
/-- isinstance(x, C) -/
def eIsOwn (c : Str) (cs : List Str) (a : DE) : DE := fun r S => (a r S).bind fun x S => match tyName S x with
  | some _ => .ok (.bl false) S
  | none => match x with
    | .ref l => (match S[l]? with
      | some (.ins d _) => if d = c then .ok (.bl true) S else if d ∈ cs then .ok (.bl false) S else .bad
      | _ => .bad)
    | _ => .bad
theorem se_isOwn {W : WX} {c : Str} {cs : List Str} {e : Expr} {da : DE} (hC : X.mg c = some (.ref C)) (cl : Cls X.K C) (ik : InsK X.K C) (ok : OwnK X.K C) (hi : ∀ d ∈ cs, ∀ C', X.mg d = some (.ref C') → Cls X.K C' ∧ InsK X.K C' ∧ PySem.W.kitOne X.K (.ref C') (.ref C) = some false)
    (hc : PE X e (tCB (rIsi X.K) (tCons (tE (gx X) W da) (tCons (tC (.ref C)) tNil)))) : SE X W e (eIsOwn c cs da) := by
  refine hc.dimp ?_
  rintro s H Q ⟨M, r, S, en, rh, p⟩
  refine ⟨M, r, S, en, rh, (Post.bind (R := RD (gx X)) p).imp fun v H1 h => ?_⟩
  obtain ⟨M1, x, S1, e1, rh1, rd1, p1⟩ := h
  cases q : tyName S1 x with
  | none =>
    rw [q] at p1
    cases x with
    | ref l =>
      dsimp only at p1
      cases q2 : S1[l]? with
      | none => rw [q2] at p1; exact p1.elim
      | some o =>
        rw [q2] at p1
        cases o with
        | lst _ => exact p1.elim
        | dct _ _ => exact p1.elim
        | ins d fs =>
          dsimp only at p1
          obtain ⟨a, rfl, h1⟩ := rd1
          obtain ⟨a', e2, C', dx, vfs, x2, x3, x4⟩ := rh1.obj l _ q2
          rw [h1] at e2; cases e2
          have x3 : X.mg d = some (.ref C') := x3
          split at p1
          · rename_i hd
            subst hd
            rw [hC] at x3
            cases x3
            exact ⟨.ref a, .ref C, .ref C, .ref C, true, rfl, .own C, .base (.ins x2 cl ik.ha ik.hn ik.htk ik.hm), by simp [PySem.W.kitOne], p1 M1 _ H1 Ext.refl rh1 rfl⟩
          · split at p1
            · rename_i hm
              obtain ⟨k1, k2, k3⟩ := hi d hm C' x3
              exact ⟨.ref a, .ref C, .ref C', .ref C, false, rfl, .own C, .base (.ins x2 k1 k2.ha k2.hn k2.htk k2.hm), k3, p1 M1 _ H1 Ext.refl rh1 rfl⟩
            · exact p1.elim
    | _ => exact p1.elim
  | some t =>
    rw [q] at p1
    have hm : t ∈ tys := by
      cases x with
      | non => cases q; simp [tys]
      | bl _ => cases q; simp [tys]
      | int _ => cases q; simp [tys]
      | str _ => cases q; simp [tys]
      | tup _ => cases q; simp [tys]
      | lst _ => cases q; simp [tys]
      | ref l =>
        dsimp only [tyName] at q
        split at q
        · cases q; simp [tys]
        · cases q; simp [tys]
        · cases q
      | cls _ => cases q
      | fn _ => cases q
    exact ⟨v, .ref C, .type t, .ref C, false, rfl, .own C, ty_ok rh1 rd1 q, ok t hm, p1 M1 _ H1 Ext.refl rh1 rfl⟩
/-- from the head's facts -/
theorem owno_nil {G : Gx} {C : Addr} : ∀ d ∈ ([] : List Str), ∀ C', G.mg d = some (.ref C') → Cls G.K C' ∧ InsK G.K C' ∧ PySem.W.kitOne G.K (.ref C') (.ref C) = some false := fun _ h => by cases h
theorem owno_cons {mg : Str → Option Value} {K : PySem.W.Frag} {C : Addr} {c : Str} {cs : List Str} (hg : mg c = some (.ref (He.ga K c))) (h1 : Cls K (He.ga K c)) (h2 : InsK K (He.ga K c)) (h3 : PySem.W.kitOne K (.ref (He.ga K c)) (.ref C) = some false)
    (h : ∀ c ∈ cs, ∀ C', mg c = some (.ref C') → Cls K C' ∧ InsK K C' ∧ PySem.W.kitOne K (.ref C') (.ref C) = some false) : ∀ d ∈ c :: cs, ∀ C', mg d = some (.ref C') → Cls K C' ∧ InsK K C' ∧ PySem.W.kitOne K (.ref C') (.ref C) = some false := fun d hd C' q => by
  rcases List.mem_cons.mp hd with rfl | hd
  · rw [hg] at q
    cases q
    exact ⟨h1, h2, h3⟩
  · exact h d hd C' q
end
end Dn

end
section
set_option Elab.async false
set_option linter.all false
set_option maxRecDepth 100000
set_option maxHeartbeats 4000000
/-! xs.extend(ys). -/
namespace Dn
open PySem PySem.Spec PyProof.Rows L2 LamX PySem.AutoSeq1
theorem list_extendL (l : Addr) (items : Array Value) (n : Nat) (b : Addr) (items2 : Array Value) (n2 : Nat) (dd : Option Addr) (sl : Array (Option Value)) (hc0 : ¬(!items.isEmpty && Builtin.List.listTooLong (items.size + items2.size)) = true) (hc1 : items.size ≤ sizeLine) (hs2 : items.size + items2.size ≤ sizeLine + 1) :
    Meets (Builtin.«list.extend» ⟨[.ref l, .ref b], []⟩) (fun _ R s => s.heap.get? l = some { cls := .type "list", dict := none, data := .seq items n, slots := #[] } ∧ s.heap.get? b = some { cls := .type "list", dict := dd, data := .seq items2 n2, slots := sl } ∧ R (.ok (.ret Value.none)) { s with heap := s.heap.update l (Obj.mapSeq fun x => x ++ items2), toks := s.toks }) :=
  .of_wp fun prog w A R s h => by
    obtain ⟨hp, g, d, tk, os⟩ := s; obtain ⟨hl, hb, h⟩ := h; have f1 := idx_int; have f2 := AutoSeq1.sub_tuple_tuple; have f3 := AutoSeq1.sub_list_list; have f4 := AutoSeq1.sub_tuple_list; have f5 := AutoSeq1.sub_list_tuple;
    have hz' : (items ++ items2).size ≤ sizeLine + 1 := by rw [Array.size_append]; exact hs2
    wp_walk using (wpAny_updateSeq hl rfl (hz := hc1) (_hz' := hz')), wpAny_loadPart' hl, wpAny_loadPart' hb; exact ⟨_, rfl, h⟩
theorem list_extendT (l : Addr) (items : Array Value) (n : Nat) (b : Addr) (items2 : Array Value) (n2 : Nat) (dd : Option Addr) (sl : Array (Option Value)) (hc0 : ¬(!items.isEmpty && Builtin.List.listTooLong (items.size + items2.size)) = true) (hc1 : items.size ≤ sizeLine) (hs2 : items.size + items2.size ≤ sizeLine + 1) :
    Meets (Builtin.«list.extend» ⟨[.ref l, .ref b], []⟩) (fun _ R s => s.heap.get? l = some { cls := .type "list", dict := none, data := .seq items n, slots := #[] } ∧ s.heap.get? b = some { cls := .type "tuple", dict := dd, data := .seq items2 n2, slots := sl } ∧ R (.ok (.ret Value.none)) { s with heap := s.heap.update l (Obj.mapSeq fun x => x ++ items2), toks := s.toks }) :=
  .of_wp fun prog w A R s h => by
    obtain ⟨hp, g, d, tk, os⟩ := s; obtain ⟨hl, hb, h⟩ := h; have f1 := idx_int; have f2 := AutoSeq1.sub_tuple_tuple; have f3 := AutoSeq1.sub_list_list; have f4 := AutoSeq1.sub_tuple_list; have f5 := AutoSeq1.sub_list_tuple;
    have hz' : (items ++ items2).size ≤ sizeLine + 1 := by rw [Array.size_append]; exact hs2
    wp_walk using (wpAny_updateSeq hl rfl (hz := hc1) (_hz' := hz')), wpAny_loadPart' hl, wpAny_loadPart' hb; exact ⟨_, rfl, h⟩
/-- xs.extend(ys), ys a list or a tuple -/
def rExtA (K : PySem.W.Frag) : V → List V → Hp → VK → Prop := fun x vs H Q => ∃ l b xs zs, x = .ref l ∧ vs = [.ref b] ∧ H l = some (.lst xs) ∧ (SqL K H b zs ∨ SqT K H b zs) ∧ xs.length + zs.length ≤ sizeLine ∧ Q .non (upd H l (.lst (xs ++ zs)))
theorem mt_extA {X : Cx} : MtR X "list.extend" (rExtA X.K) := by
  intro pins s σ H x vs v us Q I rx rv h
  obtain ⟨l, b, xs, zs, rfl, rfl, hH, hB, hz, q⟩ := h
  cases rx
  obtain ⟨u, rfl, ru⟩ := rv.one
  cases ru
  obtain ⟨z, its, n, r, hl, e⟩ := I.lstM hH
  have fin : ∀ its2 : List Value, Vals zs its2 → its.length + its2.length ≤ sizeLine → EP X pins σ Q .none { s with heap := s.heap.update l (Obj.mapSeq fun x => x ++ its2.toArray), toks := s.toks } := fun its2 r2 hz2 =>
    ⟨.non, _, I.lset (its' := its ++ its2) (t' := s.toks) hH e (by simp) (r.append r2) (by rw [List.length_append]; omega), rfl, q⟩
  rcases hB with hB | hB
  · obtain ⟨its2, r2, ⟨o2, n2, ho2, hc2, hd2, hdt2⟩, _⟩ := I.list hB
    have hl2 := r2.length
    obtain ⟨cls2, dd2, data2, sl2⟩ := o2
    simp only at hc2 hd2 hdt2
    subst hc2 hd2 hdt2
    have hsz : its.toArray.size + its2.toArray.size ≤ sizeLine := by rw [List.size_toArray, List.size_toArray]; omega
    have hlong : ¬ (!its.toArray.isEmpty && Builtin.List.listTooLong (its.toArray.size + its2.toArray.size)) = true := by
      rw [notLongL hsz, Bool.and_false]
      exact Bool.false_ne_true
    exact call_meets F.slot_list_extend ⟨_, e, rfl⟩ F.entry_list_extend (F.args_list_extend_2 _ _) (list_extendL l its.toArray n b its2.toArray n2 none sl2 hlong (by rw [List.size_toArray]; omega) (by omega)) ⟨e, ho2, fin its2 r2 (by omega)⟩
  · obtain ⟨its2, r2, ⟨o2, ho2, hc2, n2, hdt2⟩, _⟩ := I.tuple hB
    have hl2 := r2.length
    obtain ⟨cls2, dd2, data2, sl2⟩ := o2
    simp only at hc2 hdt2
    subst hc2 hdt2
    have hsz : its.toArray.size + its2.toArray.size ≤ sizeLine := by rw [List.size_toArray, List.size_toArray]; omega
    have hlong : ¬ (!its.toArray.isEmpty && Builtin.List.listTooLong (its.toArray.size + its2.toArray.size)) = true := by
      rw [notLongL hsz, Bool.and_false]
      exact Bool.false_ne_true
    exact call_meets F.slot_list_extend ⟨_, e, rfl⟩ F.entry_list_extend (F.args_list_extend_2 _ _) (list_extendT l its.toArray n b its2.toArray n2 dd2 sl2 hlong (by rw [List.size_toArray]; omega) (by omega)) ⟨e, ho2, fin its2 r2 (by omega)⟩
/-- xs.extend(ys), xs of its own -/
def sExt (i : Nat) (a : DL) : DS := fun r S => match r[i]? with
  | some (.own xs) => (a r S).toS r fun c S => (match c.get r S with
    | some zs => if xs.length + zs.length ≤ sizeLine then .next (r.set i (.own (xs ++ zs))) S else .bad
    | none => .bad)
  | _ => .bad
/-- xs.extend(ys), xs numbered -/
def eExtR (o : DE) (a : DL) : DE := fun r S => (o r S).bind fun p S => match p with
  | .ref l => (match S[l]? with
    | some (.lst _) => (a r S).bind fun c S => (match S[l]?, c.get r S with
      | some (.lst xs), some zs => if xs.length + zs.length ≤ sizeLine then .ok .non (S.set l (.lst (xs ++ zs))) else .bad
      | _, _ => .bad)
    | _ => .bad)
  | _ => .bad
variable [Tb]
section
variable {X : Cx} {M0 : Mp} {H0 : Hp} {W : WX} {e : Expr} {da : DE} {dl : DL} {st : Stmt} {i : Nat}
theorem ss_ext (la : LamAt (gx X) H0) (h : PS X st (tDrop (tBM X.K "list" (rExtA X.K) (tVar i) (tCons (tL (gx X) W dl) tNil)))) : SS X M0 H0 W st (sExt i dl) := by
  refine h.dimp ?_
  rintro D s H ⟨M, r, S, w, p⟩
  unfold sExt at p
  cases q : r[i]? with
  | none => rw [q] at p; exact p.elim
  | some z =>
    rw [q] at p
    cases z with
    | own xs =>
      obtain ⟨v, e1, a, vs, rfl, e2, e3, e4, e5⟩ := w.env.sl i _ q
      refine ⟨.ref a, e1, .inl ⟨rfl, vs, .inl (.inl e2)⟩, M, r, S, w.env, w.heap, (PostS.toS (R := RSrc (gx X) s) w p).imp fun y H1 h => ?_⟩
      obtain ⟨M1, c, S1, w1, e, rv, p1⟩ := h
      obtain ⟨v', f1, a', vs', f2, f3, f4, f5, f6⟩ := w1.env.sl i _ q
      rw [e1] at f1; cases f1; cases f2
      cases q2 : c.get r S1 with
      | none => rw [q2] at p1; exact p1.elim
      | some zs =>
        rw [q2] at p1
        dsimp only at p1
        obtain ⟨b, us, rfl, h1, h2⟩ := src_ok w1.heap w1.env rv q2
        split at p1
        · rename_i hz
          exact ⟨a, b, vs', us, rfl, rfl, f3, sq_or h1, by rw [← f4.len, ← h2.len]; exact hz, p1 M1 s _ (w1.ownPut la q e1 f3 (f4.append h2)) Le.refl⟩
        · exact p1.elim
    | un => exact p.elim
    | val _ => exact p.elim
    | ownd _ _ => exact p.elim
    | exc _ _ => exact p.elim
    | lam => exact p.elim
theorem se_extR (h : PE X e (tBM X.K "list" (rExtA X.K) (tE (gx X) W da) (tCons (tL (gx X) W dl) tNil))) : SE X W e (eExtR da dl) := by
  refine h.dimp ?_
  rintro s H Q ⟨M, r, S, en, rh, p⟩
  refine ⟨M, r, S, en, rh, (Post.bind (R := RD (gx X)) p).imp fun v H1 h => ?_⟩
  obtain ⟨M1, x, S1, e1, rh1, rd1, p1⟩ := h
  cases x with
  | ref l =>
    obtain ⟨pa, rfl, h1⟩ := rd1
    dsimp only at p1
    split at p1
    · rename_i xs0 q0
      obtain ⟨vs0, z1, z2⟩ := rh1.lstAt h1 q0
      refine ⟨.inl ⟨rfl, vs0, .inl (.inl z1)⟩, M1, r, S1, en.mono e1, rh1, (Post.bind (R := RSrc (gx X) s) p1).imp fun w H2 h => ?_⟩
      obtain ⟨M2, c, S2, e2, rh2, rd2, p2⟩ := h
      have h2 := e2.loc l pa h1
      cases q : S2[l]? with
      | none => rw [q] at p2; exact p2.elim
      | some o =>
        cases o with
        | ins _ _ => rw [q] at p2; exact p2.elim
        | dct _ _ => rw [q] at p2; exact p2.elim
        | lst xs =>
          rw [q] at p2
          cases q3 : c.get r S2 with
          | none => rw [q3] at p2; exact p2.elim
          | some zs =>
            rw [q3] at p2
            dsimp only at p2
            obtain ⟨b, us, rfl, g1, g2⟩ := src_ok rh2 ((en.mono e1).mono e2) rd2 q3
            obtain ⟨vs, z3, z4⟩ := rh2.lstAt h2 q
            split at p2
            · rename_i hz
              obtain ⟨x1, x2⟩ := rh2.put (o' := .lst (xs ++ zs)) (ho := .lst (vs ++ us)) h2 q ⟨_, rfl, z4.append g2⟩
              exact ⟨pa, b, vs, us, rfl, rfl, z3, sq_or g1, by rw [← z4.len, ← g2.len]; exact hz, p2 M2 _ _ x2 x1 rfl⟩
            · exact p2.elim
    · exact p1.elim
  | _ => exact p1.elim
end
end Dn

end
section
set_option Elab.async false
set_option linter.all false
set_option maxRecDepth 100000
set_option maxHeartbeats 4000000
/-! Dicts: looked up, stored into; keys are numbers and texts, or tuples of these. -/
namespace Dn
open PySem PySem.Spec PyProof.Rows L2 LamX
variable [Tb]
theorem hu1 {k : Nat} {A : Around} (h : RoomG k A) : A.units + 1 < cLine := by have := h.r.un; omega
section
variable {G : Gx} {M : Mp} {S : Store} {H : Hp}
theorem mapM_key : ∀ {ds : List D} {vs : List V} {ks : List Key}, ds.mapM keyOf = some ks → RelDs G M ds vs → vs = ks.map kV
  | [], _, ks, h, r => by
    cases (show _ = [] from r)
    simp at h
    subst h
    rfl
  | d :: ds, _, ks, h, r => by
    obtain ⟨v, us, rfl, r1, r2⟩ := r
    simp only [List.mapM_cons, Option.bind_eq_bind, Option.pure_def, Option.bind_eq_some_iff] at h
    obtain ⟨c, h1, cs, h2, h3⟩ := h
    cases h3
    rw [List.map_cons, key_v h1 r1, mapM_key h2 r2]
theorem keys_v {y : D} {ks : List Key} {u : V} (rh : RelH G M S H) (h : keysOf y = some ks) (r : RelD G M y u) : ∃ b, u = .ref b ∧ H b = some (.tup (ks.map kV)) := by
  cases y with
  | tup ds =>
    obtain ⟨a, vs, rfl, h1, h2⟩ := r
    exact ⟨a, rfl, by rw [rh.tup a vs h1, mapM_key h h2]⟩
  | _ => cases h
/-- the dict stands -/
theorem dct_at {x : D} {l : Nat} {t : Bool} {kvs : List (D × D)} {v : V} (rh : RelH G M S H) (r : RelD G M x v) (h : dctOf S x = some (l, t, kvs)) : ∃ a, x = .ref l ∧ v = .ref a ∧ M.loc l = some a ∧ S[l]? = some (.dct t kvs) ∧ DctR G M t kvs (H a) := by
  cases x with
  | ref l' =>
    obtain ⟨a, rfl, h1⟩ := r
    dsimp only [dctOf] at h
    cases q : S[l']? with
    | none => rw [q] at h; cases h
    | some o =>
      rw [q] at h
      cases o with
      | lst _ => cases h
      | ins _ _ => cases h
      | dct t' kvs' =>
        cases h
        obtain ⟨a', e1, e2⟩ := rh.obj _ _ q
        rw [h1] at e1; cases e1
        exact ⟨a, rfl, rfl, h1, q, e2⟩
  | _ => cases h
theorem dct_isD {t : Bool} {kvs : List (D × D)} {a : Addr} (h : DctR G M t kvs (H a)) : IsD H a := by
  rcases h with ⟨_, vs, e, _⟩ | ⟨_, vs, e, _⟩
  · exact .inl ⟨vs, .inl e⟩
  · exact .inr ⟨vs, .inl e⟩
/-- what is found, or not -/
def ORel (G : Gx) (M : Mp) (o : Option D) (ov : Option V) : Prop := match o with
  | some d => ∃ w, ov = some w ∧ RelD G M d w
  | none => ov = none
theorem RelKV.orel {κ : Type} [DecidableEq κ] {f : D → Option κ} {kvs : List (D × D)} {vs : List (κ × V)} (rk : RelKV G M f kvs vs) (c : κ) : ORel G M (getKV f kvs c) (valV vs c) := by
  have := rk.get c
  unfold ORel
  cases z : getKV f kvs c with
  | none => rw [z] at this; exact this
  | some d => rw [z] at this; exact this
theorem dget_at {t : Bool} {kvs : List (D × D)} {a : Addr} {y : D} {u : V} {o : Option D} (rh : RelH G M S H) (h : DctR G M t kvs (H a)) (r : RelD G M y u) (g : dGet t kvs y = some o) : ∃ ov, DGet H a u ov ∧ ORel G M o ov := by
  rcases h with ⟨rfl, vs, e, rk⟩ | ⟨rfl, vs, e, rk⟩
  · unfold dGet at g
    rw [if_neg (by simp)] at g
    cases q : keyOf y with
    | none => rw [q] at g; cases g
    | some c =>
      rw [q] at g
      cases g
      rw [key_v q r]
      exact ⟨_, DGet.k e, rk.orel c⟩
  · unfold dGet at g
    rw [if_pos rfl] at g
    cases q : keysOf y with
    | none => rw [q] at g; cases g
    | some c =>
      rw [q] at g
      cases g
      obtain ⟨b, rfl, hb⟩ := keys_v rh q r
      exact ⟨_, DGet.t e hb, rk.orel c⟩
theorem dput_at {t : Bool} {kvs kvs' : List (D × D)} {l : Nat} {a : Addr} {y z : D} {u w : V} (rh : RelH G M S H) (hl : M.loc l = some a) (hS : S[l]? = some (.dct t kvs)) (h : DctR G M t kvs (H a)) (r : RelD G M y u) (rz : RelD G M z w) (hz : kvs.length < sizeLine) (g : dPut t kvs y z = some kvs') :
    ∃ H', DPut H a u w H' ∧ RelH G M (S.set l (.dct t kvs')) H' ∧ Ext M H M H' := by
  rcases h with ⟨rfl, vs, e, rk⟩ | ⟨rfl, vs, e, rk⟩
  · unfold dPut at g
    rw [if_neg (by simp)] at g
    cases q : keyOf y with
    | none => rw [q] at g; cases g
    | some c =>
      rw [q] at g
      cases g
      rw [key_v q r]
      obtain ⟨r1, r2⟩ := rh.put (o' := .dct false (putKV keyOf kvs y c z)) (ho := .dK (putK vs c w)) hl hS (.inl ⟨rfl, _, rfl, rk.put q rz⟩)
      exact ⟨_, DPut.k e (by rw [← rk.len]; exact hz), r1, r2⟩
  · unfold dPut at g
    rw [if_pos rfl] at g
    cases q : keysOf y with
    | none => rw [q] at g; cases g
    | some c =>
      rw [q] at g
      cases g
      obtain ⟨b, rfl, hb⟩ := keys_v rh q r
      obtain ⟨r1, r2⟩ := rh.put (o' := .dct true (putKV keysOf kvs y c z)) (ho := .dT (putK vs c w)) hl hS (.inr ⟨rfl, _, rfl, rk.put q rz⟩)
      exact ⟨_, DPut.t e hb (by rw [← rk.len]; exact hz), r1, r2⟩
end
/-- d.get(k) -/
def eDGet1 (d k : DE) : DE := fun r S => (d r S).bind fun x S => if (dctOf S x).isSome then (k r S).bind fun y S => match dctOf S x with
  | some (_, t, kvs) => Rs.ofO ((dGet t kvs y).map fun o => o.getD .non) S
  | none => .bad else .bad
section
variable {X : Cx} {M0 : Mp} {H0 : Hp} {W : WX} {o e f value : Expr} {dd dk dz : DE} {pos pos' apos cpos : Pos}
theorem se_dget (hu : X.A.units + 1 < cLine) (ho : SE X W o dd) (hi : SE X W e dk) (hs : NoSl e) : SE X W (.Subscript o e pos) (eDGet dd dk) := by
  refine (pe_dget hu ho hi hs).dimp ?_
  rintro s H Q ⟨M, r, S, en, rh, p⟩
  refine ⟨M, r, S, en, rh, (bind2 en p).imp fun v H1 h => ?_⟩
  obtain ⟨M1, S1, e1, rh1, en1, p1⟩ := h
  refine ⟨M1, r, S1, en1, rh1, p1.imp fun u H2 h => ?_⟩
  obtain ⟨M2, x, y, S2, e2, rh2, en2, rd1, rd2, p2⟩ := h
  cases q : dctOf S2 x with
  | none => rw [q] at p2; exact p2.elim
  | some z =>
    obtain ⟨l, t, kvs⟩ := z
    rw [q] at p2
    dsimp only at p2
    obtain ⟨a, rfl, rfl, h1, h2, h3⟩ := dct_at rh2 rd1 q
    cases q2 : dGet t kvs y with
    | none => rw [q2] at p2; exact p2.elim
    | some ov =>
      rw [q2] at p2
      obtain ⟨ow, g1, g2⟩ := dget_at rh2 h3 rd2 q2
      cases ov with
      | none => exact p2.elim
      | some d =>
        obtain ⟨w, rfl, g3⟩ := g2
        exact ⟨a, w, rfl, g1, p2 M2 _ H2 Ext.refl rh2 g3⟩
theorem din_t {n : Bool} {s : L2.St} {H : Hp} {Q : VK} (h : tE (gx X) W (eDIn n dk dd) s H Q) : tE (gx X) W dk s H fun y H1 => tE (gx X) W dd s H1 fun x H2 => ∃ a ov, x = .ref a ∧ DGet H2 a y ov ∧ Q (.bl (ov.isSome != n)) H2 := by
  obtain ⟨M, r, S, en, rh, p⟩ := h
  refine ⟨M, r, S, en, rh, (bind2 en p).imp fun v H1 h => ?_⟩
  obtain ⟨M1, S1, e1, rh1, en1, p1⟩ := h
  refine ⟨M1, r, S1, en1, rh1, p1.imp fun u H2 h => ?_⟩
  obtain ⟨M2, y, x, S2, e2, rh2, en2, rd2, rd1, p2⟩ := h
  cases q : dctOf S2 x with
  | none => rw [q] at p2; exact p2.elim
  | some z =>
    obtain ⟨l, t, kvs⟩ := z
    rw [q] at p2
    dsimp only at p2
    obtain ⟨a, rfl, rfl, h1, h2, h3⟩ := dct_at rh2 rd1 q
    cases q2 : dGet t kvs y with
    | none => rw [q2] at p2; exact p2.elim
    | some ov =>
      rw [q2] at p2
      obtain ⟨ow, g1, g2⟩ := dget_at rh2 h3 rd2 q2
      refine ⟨a, ow, rfl, g1, ?_⟩
      cases ov with
      | none => cases (show ow = none from g2); exact p2 M2 _ H2 Ext.refl rh2 rfl
      | some d =>
        obtain ⟨w, rfl, g3⟩ := g2
        exact p2 M2 _ H2 Ext.refl rh2 rfl
theorem din_f {s : L2.St} {H : Hp} {Q : VK} (h : tE (gx X) W (eDIn false dk dd) s H Q) : tDIn (tE (gx X) W dk) (tE (gx X) W dd) s H Q := by
  obtain ⟨M, r, S, en, rh, p⟩ := din_t h
  refine ⟨M, r, S, en, rh, p.imp fun y H1 h => ?_⟩
  obtain ⟨M1, r1, S1, en1, rh1, p1⟩ := h
  refine ⟨M1, r1, S1, en1, rh1, p1.imp fun x H2 h => ?_⟩
  obtain ⟨a, ov, h1, h2, h3⟩ := h
  refine ⟨a, ov, h1, h2, ?_⟩
  cases ov <;> exact h3
theorem dnin_f {s : L2.St} {H : Hp} {Q : VK} (h : tE (gx X) W (eDIn true dk dd) s H Q) : tDNotIn (tE (gx X) W dk) (tE (gx X) W dd) s H Q := by
  obtain ⟨M, r, S, en, rh, p⟩ := din_t h
  refine ⟨M, r, S, en, rh, p.imp fun y H1 h => ?_⟩
  obtain ⟨M1, r1, S1, en1, rh1, p1⟩ := h
  refine ⟨M1, r1, S1, en1, rh1, p1.imp fun x H2 h => ?_⟩
  obtain ⟨a, ov, h1, h2, h3⟩ := h
  refine ⟨a, ov, h1, h2, ?_⟩
  cases ov <;> exact h3
theorem se_din (hu : X.A.units + 1 < cLine) (hi : SE X W e dk) (ho : SE X W o dd) (hm : behindInMarks .In o = false) : SE X W (.Compare e [.In] [o] pos) (eDIn false dk dd) := (pe_cmp (pc_din hu hi ho) hm).dimp fun _ _ _ => din_f
theorem se_dnin (hu : X.A.units + 1 < cLine) (hi : SE X W e dk) (ho : SE X W o dd) (hm : behindInMarks .NotIn o = false) : SE X W (.Compare e [.NotIn] [o] pos) (eDIn true dk dd) := (pe_cmp (pc_dnotin hu hi ho) hm).dimp fun _ _ _ => dnin_f
theorem st_din (hu : X.A.units + 1 < cLine) (hi : SE X W e dk) (ho : SE X W o dd) (hm : behindInMarks .In o = false) : ST X W (.Compare e [.In] [o] pos) (tOfB (eDIn false dk dd)) := (pt_cmp (pc_din hu hi ho) hm).dimp fun _ _ _ h => din_f (tofb_t h)
theorem st_dnin (hu : X.A.units + 1 < cLine) (hi : SE X W e dk) (ho : SE X W o dd) (hm : behindInMarks .NotIn o = false) : ST X W (.Compare e [.NotIn] [o] pos) (tOfB (eDIn true dk dd)) := (pt_cmp (pc_dnotin hu hi ho) hm).dimp fun _ _ _ h => dnin_f (tofb_t h)
theorem se_dget1 (hu : X.A.units + 1 < cLine) (ho : SE X W o dd) (he : SE X W e dk) (m : M1 X o "get" apos e cpos) : SE X W (.Call (.Attribute o "get" apos) [e] [] cpos) (eDGet1 dd dk) := by
  refine (pe_dget1 hu ho he m).dimp ?_
  rintro s H Q ⟨M, r, S, en, rh, p⟩
  refine ⟨M, r, S, en, rh, (Post.bind (R := RD (gx X)) p).imp fun v H1 h => ?_⟩
  obtain ⟨M1, x, S1, e1, rh1, rd1, p1⟩ := h
  cases q0 : dctOf S1 x with
  | none => rw [q0] at p1; exact p1.elim
  | some z0 =>
    obtain ⟨l0, t0, kvs0⟩ := z0
    rw [q0] at p1
    obtain ⟨a, rfl, rfl, h1, h2, h3⟩ := dct_at rh1 rd1 q0
    refine ⟨a, rfl, dct_isD h3, M1, r, S1, en.mono e1, rh1, (Post.bind (R := RD (gx X)) p1).imp fun u H2 h => ?_⟩
    obtain ⟨M2, y, S2, e2, rh2, rd2, p2⟩ := h
    cases q : dctOf S2 (.ref l0) with
    | none => rw [q] at p2; exact p2.elim
    | some z =>
      obtain ⟨l, t, kvs⟩ := z
      rw [q] at p2
      dsimp only at p2
      obtain ⟨a', e3, e4, g1, g2, g3⟩ := dct_at rh2 (rd1.mono e2) q
      cases e3
      cases e4
      cases q2 : dGet t kvs y with
      | none => rw [q2] at p2; exact p2.elim
      | some ov =>
        rw [q2] at p2
        obtain ⟨ow, k1, k2⟩ := dget_at rh2 g3 rd2 q2
        refine ⟨ow, k1, ?_⟩
        cases ov with
        | none => cases (show ow = none from k2); exact p2 M2 _ H2 Ext.refl rh2 rfl
        | some d =>
          obtain ⟨w, rfl, k3⟩ := k2
          exact p2 M2 _ H2 Ext.refl rh2 k3
theorem se_dget2 (hu : X.A.units + 1 < cLine) (ho : SE X W o dd) (he : SE X W e dk) (hf : SE X W f dz) (m : M2 X o "get" apos e f cpos) : SE X W (.Call (.Attribute o "get" apos) [e, f] [] cpos) (eDGet2 dd dk dz) := by
  refine (pe_dget2 hu ho he hf m).dimp ?_
  rintro s H Q ⟨M, r, S, en, rh, p⟩
  refine ⟨M, r, S, en, rh, (Post.bind (R := RD (gx X)) p).imp fun v H1 h => ?_⟩
  obtain ⟨M1, x, S1, e1, rh1, rd1, p1⟩ := h
  cases q0 : dctOf S1 x with
  | none => rw [q0] at p1; exact p1.elim
  | some z0 =>
    obtain ⟨l0, t0, kvs0⟩ := z0
    rw [q0] at p1
    obtain ⟨a, rfl, rfl, h1, h2, h3⟩ := dct_at rh1 rd1 q0
    refine ⟨a, rfl, dct_isD h3, M1, r, S1, en.mono e1, rh1, (Post.bind (R := RD (gx X)) p1).imp fun u H2 h => ?_⟩
    obtain ⟨M2, y, S2, e2, rh2, rd2, p2⟩ := h
    refine ⟨M2, r, S2, (en.mono e1).mono e2, rh2, (Post.bind (R := RD (gx X)) p2).imp fun u3 H3 h => ?_⟩
    obtain ⟨M3, z3, S3, e3, rh3, rd3, p3⟩ := h
    cases q : dctOf S3 (.ref l0) with
    | none => rw [q] at p3; exact p3.elim
    | some z =>
      obtain ⟨l, t, kvs⟩ := z
      rw [q] at p3
      dsimp only at p3
      obtain ⟨a', e4, e5, g1, g2, g3⟩ := dct_at rh3 ((rd1.mono e2).mono e3) q
      cases e4
      cases e5
      cases q2 : dGet t kvs y with
      | none => rw [q2] at p3; exact p3.elim
      | some ov =>
        rw [q2] at p3
        obtain ⟨ow, k1, k2⟩ := dget_at rh3 g3 (rd2.mono e3) q2
        refine ⟨ow, k1, ?_⟩
        cases ov with
        | none => cases (show ow = none from k2); exact p3 M3 _ H3 Ext.refl rh3 rd3
        | some d =>
          obtain ⟨w, rfl, k3⟩ := k2
          exact p3 M3 _ H3 Ext.refl rh3 k3
/-- d[k] = v -/
theorem ss_dput (hu : X.A.units + 1 < cLine) (ho : SE X W o dd) (hi : SE X W e dk) (hv : SE X W value dz) (hs : swapsWith value (some (.Subscript o e pos')) pos.line X.env = pure false := by rfl) : SS X M0 H0 W (.Assign [.Subscript o e pos'] value pos) (sDPutR dd dk dz) := by
  refine (ps_dput hu ho hi hv hs).dimp ?_
  rintro D s H ⟨M, r, S, w, p⟩
  refine ⟨M, r, S, w.env, w.heap, (PostS.toS (R := RD (gx X)) w p).imp fun y H1 h => ?_⟩
  obtain ⟨M1, v, S1, w1, e1, rv, p1⟩ := h
  refine ⟨M1, r, S1, w1.env, w1.heap, (PostS.toS (R := RD (gx X)) w1 p1).imp fun z H2 h => ?_⟩
  obtain ⟨M2, u, S2, w2, e2, ru, p2⟩ := h
  refine ⟨M2, r, S2, w2.env, w2.heap, (PostS.toS (R := RD (gx X)) w2 p2).imp fun z3 H3 h => ?_⟩
  obtain ⟨M3, u3, S3, w3, e3, ru3, p3⟩ := h
  cases q : dctOf S3 u with
  | none => rw [q] at p3; exact p3.elim
  | some zz =>
    obtain ⟨l, t, kvs⟩ := zz
    rw [q] at p3
    dsimp only at p3
    obtain ⟨a, rfl, rfl, h1, h2, h3⟩ := dct_at w3.heap (ru.mono e3) q
    split at p3
    · rename_i hz
      cases q2 : dPut t kvs u3 v with
      | none => rw [q2] at p3; exact p3.elim
      | some kvs' =>
        rw [q2] at p3
        obtain ⟨H', k1, k2, k3⟩ := dput_at w3.heap h1 h2 h3 ru3 ((rv.mono e2).mono e3) hz q2
        exact ⟨a, H', rfl, k1, p3 M3 s H' (w3.mono k3 k2) k3.le⟩
    · exact p3.elim
end
end Dn

end
section
set_option Elab.async false
set_option linter.all false
set_option maxRecDepth 100000
set_option maxHeartbeats 4000000
/-! == of dicts and tuples; str, join. -/
namespace Dn
open PySem PySem.Spec PyProof.Rows L2
theorem sub_tuple_dict : isSubtype (.type "tuple") (.type "dict") = pure false := by rw [isSubtype_type]; kernel_rfl
theorem sub_dict_tuple : isSubtype (.type "dict") (.type "tuple") = pure false := by rw [isSubtype_type]; kernel_rfl
theorem dict_eq_tuple (l b : Addr) (es : Array DictEntry) (ep : Nat) (dc : Option Addr) (sl sl2 : Array (Option Value)) (items2 : Array Value) (n2 : Nat) (dd : Option Addr) :
    Meets (Builtin.«dict.__eq__» ⟨[.ref l, .ref b], []⟩) (fun _ R s => s.heap.get? l = some { cls := .type "dict", dict := dc, data := .dict es ep, slots := sl } ∧ s.heap.get? b = some { cls := .type "tuple", dict := dd, data := .seq items2 n2, slots := sl2 } ∧ R (.ok (.ret Value.notImplemented)) s) :=
  .of_wp fun prog w A R s h => by
    obtain ⟨hp, g, d, tk, os⟩ := s; obtain ⟨hl, hb, h⟩ := h; have f1 := sub_tuple_dict; have f2 := sub_dict_tuple
    wp_walk using AutoSeq1.wpAny_loadPart' hl, AutoSeq1.wpAny_loadPart' hb
    exact ⟨_, rfl, h⟩
theorem tuple_eq_dict (l b : Addr) (es : Array DictEntry) (ep : Nat) (dc : Option Addr) (sl sl2 : Array (Option Value)) (items2 : Array Value) (n2 : Nat) (dd : Option Addr) :
    Meets (Builtin.«tuple.__eq__» ⟨[.ref b, .ref l], []⟩) (fun _ R s => s.heap.get? l = some { cls := .type "dict", dict := dc, data := .dict es ep, slots := sl } ∧ s.heap.get? b = some { cls := .type "tuple", dict := dd, data := .seq items2 n2, slots := sl2 } ∧ R (.ok (.ret Value.notImplemented)) s) :=
  .of_wp fun prog w A R s h => by
    obtain ⟨hp, g, d, tk, os⟩ := s; obtain ⟨hl, hb, h⟩ := h; have f1 := sub_tuple_dict; have f2 := sub_dict_tuple
    wp_walk using AutoSeq1.wpAny_loadPart' hl, AutoSeq1.wpAny_loadPart' hb
    exact ⟨_, rfl, h⟩
def rEqDT : R2 := fun x y H Q => ∃ a b kvs ys, x = .ref a ∧ y = .ref b ∧ (H a = some (.dK kvs)) ∧ H b = some (.tup ys) ∧ Q (.bl false) H
theorem op_eqDT {X : Cx} (hu : X.A.units < cLine) : OpR X (compareOp .Eq) rEqDT := by
  intro pins s σ H x y v u Q I rx ry h
  obtain ⟨a, b, kvs, ys, rfl, rfl, ha, hb, q⟩ := h
  obtain rfl : v = Value.ref a := rx
  obtain rfl : u = Value.ref b := ry
  obtain ⟨_, _, vs, _, dd⟩ := dk_of I.hok ha
  obtain ⟨_, its, r, o2, g1, g2, n, g3⟩ := (show ObjOk X.prog X.w H s.heap b (.tup ys) from I.hok b _ hb)
  obtain ⟨o, es, ep, h1, h2, h3, _⟩ := dd
  have ne : a ≠ b := fun z => by rw [z, hb] at ha; cases ha
  have hc := h2.1
  have hd := h2.2.1
  obtain ⟨cls, dct, dat, sl⟩ := o
  obtain ⟨cls2, dct2, dat2, sl2⟩ := o2
  simp only at hc hd h3 g2 g3
  subst hc hd h3 g2 g3
  exact SeqAt.rc_eq_decline_or (Ta := "dict") (Tb := "tuple") (k := false) ⟨_, h1, rfl⟩ ⟨_, g1, rfl⟩ (by decide) sub_tuple_dict F.slot_dict_eq F.slot_tuple_eq_refl
    (fun Q' hq => call_meets F.slot_dict_eq ⟨_, h1, rfl⟩ F.entry_dict_eq (F.args_dict_eq_2 _ _) (dict_eq_tuple a b es ep none sl sl2 _ n dct2) ⟨h1, g1, hq⟩)
    (fun Q' hq => call_meets F.slot_tuple_eq ⟨_, g1, rfl⟩ F.entry_tuple_eq (F.args_tuple_eq_2 _ _) (tuple_eq_dict a b es ep none sl sl2 _ n dct2) ⟨h1, g1, hq⟩)
    (fun Q' hq => wpAny_isSame_ref_other ne h1 g1 (by simp) hq) (.inr hu) ⟨.bl false, H, I, rfl, q⟩
/-- ==, a dict beside a tuple let -/
def cmpEqX (S : Store) (x y : D) : Option Bool := match dctOf S x, y with
  | some (_, false, _), .tup _ => some false
  | _, y => cmpEq S x y
def strsOf : List D → Option (List Str)
  | [] => some []
  | .str x :: r => (strsOf r).map (x :: ·)
  | _ => none
/-- sep.join(xs) -/
def eJoin (a : DE) (l : DL) : DE := fun r S => (a r S).bind fun x S => (match x with
  | .str sep => (l r S).bind fun c S => (match (c.get r S).bind strsOf with
    | some ys => if (ys.map (·.length)).sum + ys.length * sep.length ≤ 16777216 then .ok (.str (Txt.join sep ys)) S else .bad
    | none => .bad)
  | _ => .bad)
/-- str(e): of a number -/
def eStr (a : DE) : DE := fun r S => (a r S).bind fun x S => (match x with
  | .int i => if i.natAbs.log2 < 1920 then .ok (.str (toString i)) S else .bad
  | _ => .bad)
variable [Tb]
theorem opb_eqX {G : Gx} : OpB G (fun x y H Q => rEqD G.K x y H Q ∨ rEqDT x y H Q) cmpEqX := by
  intro M S H x y b v u Q rh rx ry h q
  unfold cmpEqX at h
  split at h
  · rename_i l kvs ds q0
    cases h
    obtain ⟨a, rfl, rfl, h1, h2, h3⟩ := dct_at rh rx q0
    obtain ⟨p, vs, rfl, k1, k2⟩ := ry
    rcases h3 with ⟨_, ws, e, _⟩ | ⟨e, _⟩
    · exact .inr ⟨a, p, ws, vs, rfl, rfl, e, rh.tup p vs k1, q⟩
    · cases e
  · exact .inl (opb_eq M S H x _ b v u Q rh rx ry h q)
theorem strs_rel {G : Gx} {M : Mp} : ∀ {xs : List D} {vs : List V} {ys : List Str}, strsOf xs = some ys → RelDs G M xs vs → vs = ys.map V.str
  | [], _, _, h, r => by
    cases (show _ = [] from r)
    cases h
    rfl
  | x :: xs, _, ys, h, r => by
    obtain ⟨v, us, rfl, r1, r2⟩ := r
    cases x with
    | str z =>
      unfold strsOf at h
      obtain ⟨zs, h1, h2⟩ := Option.map_eq_some_iff.mp h
      subst h2
      cases (show _ = _ from r1)
      rw [List.map_cons, strs_rel h1 r2]
    | _ => cases h
section
variable {X : Cx} {W : WX} {e : Expr} {da : DE} {dl : DL}
theorem se_join (h : PE X e (tBM X.K "str" (fun x xs H Q => ∃ a p, ∃ ys : List Str, x = .str a ∧ xs = [.ref p] ∧ (SqL X.K H p (ys.map V.str) ∨ SqT X.K H p (ys.map V.str)) ∧
    (ys.map (·.length)).sum + ys.length * a.length ≤ 16777216 ∧ Q (.str (Txt.join a ys)) H) (tE (gx X) W da) (tCons (tL (gx X) W dl) tNil))) : SE X W e (eJoin da dl) := by
  refine h.dimp ?_
  rintro s H Q ⟨M, r, S, en, rh, p⟩
  refine ⟨M, r, S, en, rh, (Post.bind (R := RD (gx X)) p).imp fun v H1 h => ?_⟩
  obtain ⟨M1, x, S1, e1, rh1, rd1, p1⟩ := h
  cases x with
  | str sep =>
    cases (show _ = _ from rd1)
    refine ⟨rfl, M1, r, S1, en.mono e1, rh1, (Post.bind (R := RSrc (gx X) s) p1).imp fun w H2 h => ?_⟩
    obtain ⟨M2, c, S2, e2, rh2, rd2, p2⟩ := h
    cases q : c.get r S2 with
    | none => rw [q] at p2; exact p2.elim
    | some xs =>
      rw [q] at p2
      obtain ⟨b, us, rfl, g1, g2⟩ := src_ok rh2 ((en.mono e1).mono e2) rd2 q
      cases q3 : strsOf xs with
      | none =>
        have p2 : Post (gx X) (RD (gx X)) W M2 H2 s (match (some xs).bind strsOf with
          | some ys => if (ys.map (·.length)).sum + ys.length * sep.length ≤ 16777216 then Rs.ok (D.str (Txt.join sep ys)) S2 else .bad
          | none => .bad) Q := p2
        rw [show (some xs).bind strsOf = none from q3] at p2
        exact p2.elim
      | some ys =>
        have p2 : Post (gx X) (RD (gx X)) W M2 H2 s (match (some xs).bind strsOf with
          | some ys => if (ys.map (·.length)).sum + ys.length * sep.length ≤ 16777216 then Rs.ok (D.str (Txt.join sep ys)) S2 else .bad
          | none => .bad) Q := p2
        rw [show (some xs).bind strsOf = some ys from q3] at p2
        dsimp only at p2
        split at p2
        · rename_i hz
          have := strs_rel q3 g2
          subst this
          exact ⟨sep, b, ys, rfl, rfl, sq_or g1, hz, p2 M2 _ H2 Ext.refl rh2 rfl⟩
        · exact p2.elim
  | _ => exact p1.elim
theorem se_strI (hc : PE X e (tCB (fun xs H Q => ∃ i, xs = [.int i] ∧ i.natAbs.log2 < 1920 ∧ Q (.str (toString i)) H) (tCons (tE (gx X) W da) tNil))) : SE X W e (eStr da) := by
  refine hc.dimp ?_
  rintro s H Q ⟨M, r, S, en, rh, p⟩
  refine ⟨M, r, S, en, rh, (Post.bind (R := RD (gx X)) p).imp fun v H1 h => ?_⟩
  obtain ⟨M1, x, S1, e1, rh1, rd1, p1⟩ := h
  cases x with
  | int i =>
    cases (show _ = _ from rd1)
    dsimp only at p1
    split at p1
    · rename_i hz
      exact ⟨i, rfl, hz, p1 M1 _ H1 Ext.refl rh1 rfl⟩
    · exact p1.elim
  | _ => exact p1.elim
end
theorem se_gstr {X : Cx} {W : WX} {x z : Str} {t : Tok} {pos : Pos} (hg : Gl X x) (hm : X.mg x = some (.str z t)) (hd : (x == ("__debug__" : Str)) = false := by decide) : SE X W (.Name x pos) (eC (.str z)) := se_c (pe_glob (v := .str z) hg hm ⟨_, rfl⟩ hd) fun _ => rfl
end Dn

end
section
set_option Elab.async false
set_option linter.all false
set_option maxRecDepth 100000
set_option maxHeartbeats 4000000
/-! isinstance(x, (C, D)). -/
namespace Dn
open PySem PySem.Spec PyProof.Rows L2
variable [Tb]
def eIsTy2 (n m : String) (a : DE) : DE := fun r S => (a r S).bind fun x S => match tyName S x with
  | some t => .ok (.bl (isTy t n || isTy t m)) S
  | none => .bad
theorem kitB_at {n t : String} {S : Store} {x : D} (hn : kitOk n = true) (q : tyName S x = some t) : kitB t n = some (isTy t n) := by
  unfold kitOk at hn
  rw [List.all_eq_true] at hn
  refine of_decide_eq_true (hn t ?_)
  cases x with
  | non => cases q; simp
  | bl _ => cases q; simp
  | int _ => cases q; simp
  | str _ => cases q; simp
  | tup _ => cases q; simp
  | lst _ => cases q; simp
  | ref l =>
    dsimp only [tyName] at q
    split at q
    · cases q; simp
    · cases q; simp
    · cases q
  | cls _ => cases q
  | fn _ => cases q
theorem se_isTy2 {X : Cx} {W : WX} {e : Expr} {da : DE} {n m : String} (hn : kitOk n = true) (hm : kitOk m = true) (hc : PE X e (tCB (rIsiT X.K) (tCons (tE (gx X) W da) (tCons (tTup (tCons (tC (.ty n)) (tCons (tC (.ty m)) tNil))) tNil)))) : SE X W e (eIsTy2 n m da) := by
  refine hc.dimp ?_
  rintro s H Q ⟨M, r, S, en, rh, p⟩
  refine ⟨M, r, S, en, rh, p.bind.imp fun v H1 h => ?_⟩
  obtain ⟨M1, x, S1, e1, rh1, rd1, p1⟩ := h
  cases q : tyName S1 x with
  | none => rw [q] at p1; exact p1.elim
  | some t =>
    rw [q] at p1
    refine ⟨by show 2 ≤ sizeLine; rw [sizeLine_eq]; decide, fun tp hp => ?_⟩
    refine ⟨v, tp, [.ty n, .ty m], .type t, [.type n, .type m], isTy t n || isTy t m, rfl, upd_same, .cons (.ty n) (.cons (.ty m) .nil), ty_ok (rh1.other hp) rd1 q, ?_, p1 M1 _ _ (Ext.other hp) (rh1.other hp) rfl⟩
    have k1 := kit_ty (K := X.K) (kitB_at hn q)
    have k2 := kit_ty (K := X.K) (kitB_at hm q)
    simp only [PySem.W.kitAny, k1, k2]
    cases isTy t n <;> cases isTy t m <;> rfl
/-- nothing is promised of a def whose fuel is out -/
theorem fnG_bad {P : Program} {w : World} {K : PySem.W.Frag} {mg : Str → Option Value} {base : Heap} {CX : CXT} {k : Nat} {f : Addr} {fd : FuncData} {ps : List Str} {G : Gx} : FnG P w K mg base CX k f fd ps (spD G fun _ _ => .bad) :=
  ⟨fun vs H Q E h => by obtain ⟨M, ds, St, rd, rh, p⟩ := h; exact p.elim,
   fun A outer s H args us vs Q E hr e0 hb hv h => by obtain ⟨M, ds, St, rd, rh, p⟩ := h; exact p.elim⟩
end Dn

end
section
set_option Elab.async false
set_option linter.all false
set_option maxRecDepth 100000
set_option maxHeartbeats 4000000
/-! o.f += e of whole numbers -/
namespace Dn
open PySem PySem.Spec PyProof.Rows L2
def sAugF (cs : List Str) (f : Str) (w : Int → Int → Int) (o a : DE) : DS := fun r S => (o r S).toS r fun p S => match p with
  | .ref l => (match S[l]? with
    | some (.ins c fs) => if c ∈ cs then (match fs.lookup f with
      | some (.int x) => (a r S).toS r fun y S => (match y with
        | .int j => (match S[l]? with
          | some (.ins c' fs') => if c' = c ∧ fs'.length < 1000 then .next r (S.set l (.ins c' (putFD f (.int (w x j)) fs'))) else .bad
          | _ => .bad)
        | _ => .bad)
      | _ => .bad) else .bad
    | _ => .bad)
  | _ => .bad
def rI (w : Int → Int → Int) : V → V → Hp → VK → Prop := fun x y H Q => ∃ i j, x = .int i ∧ y = .int j ∧ Q (.int (w i j)) H
variable [Tb]
section
variable {X : Cx} {M0 : Mp} {H0 : Hp} {W : WX} {st : Stmt} {da db : DE}
theorem ss_augF {f : Str} {cs : List Str} {w : Int → Int → Int} (hf : ∀ c ∈ cs, FldOk (gx X) c f) (h : PS X st (sFldAug X.K (tE (gx X) W db) (tE (gx X) W da) (rI w) f)) : SS X M0 H0 W st (sAugF cs f w db da) := by
  refine h.dimp ?_
  rintro D s H ⟨M, r, S, wst, p⟩
  refine ⟨M, r, S, wst.env, wst.heap, (PostS.toS (R := RD (gx X)) wst p).imp fun z H1 h => ?_⟩
  obtain ⟨M1, u, S1, w1, e1, ru, p1⟩ := h
  cases u with
  | ref l =>
    obtain ⟨pa, rfl, h1⟩ := ru
    dsimp only at p1
    split at p1
    · rename_i c fs q
      split at p1
      · rename_i hc
        split at p1
        · rename_i x ql
          obtain ⟨a2, x1, C, dx, vfs, x2, x3, x4⟩ := w1.heap.obj l _ q
          rw [h1] at x1; cases x1
          obtain ⟨k1, k2⟩ := hf c hc C x3
          obtain ⟨v, y1, y2⟩ := x4.lookup ql
          cases (show _ = _ from y2)
          refine ⟨pa, C, dx, vfs, .int x, rfl, x2, k1, k2, y1, M1, r, S1, w1.env, w1.heap, (PostS.toS (R := RD (gx X)) w1 p1).imp fun y H2 h => ?_⟩
          obtain ⟨M2, d, S2, w2, e2, rd, p2⟩ := h
          cases d with
          | int j =>
            cases (show _ = _ from rd)
            refine ⟨x, j, rfl, rfl, ?_⟩
            dsimp only at p2
            split at p2
            · rename_i c' fs' q'
              split at p2
              · rename_i hc'
                obtain ⟨rfl, hlen⟩ := hc'
                obtain ⟨a3, z1, C', dx', vfs', z2, z3, z4⟩ := w2.heap.obj l _ q'
                have h2 : M2.loc l = some pa := e2.loc _ _ h1
                rw [h2] at z1; cases z1
                rw [x3] at z3; cases z3
                obtain ⟨y1, y2⟩ := w2.heap.put (o' := .ins c' (putFD f (.int (w x j)) fs')) (ho := .ins C dx' (putF f (.int (w x j)) vfs')) h2 q' ⟨C, dx', _, rfl, x3, z4.put (show RelD (gx X) _ (.int (w x j)) (.int (w x j)) from rfl)⟩
                exact ⟨dx', vfs', z2, by rw [← z4.len]; exact hlen, p2 M2 s _ (w2.mono y2 y1) Le.refl⟩
              · exact p2.elim
            · exact p2.elim
          | _ => exact p2.elim
        · exact p1.elim
      · exact p1.elim
    · exact p1.elim
  | _ => exact p1.elim
theorem in_rI_add {X : Cx} : InOp X .Add (rI fun i j => i + j) := fun pins s σ H x y u v Q I rx ry h => in_add pins s σ H x y u v Q I rx ry h
theorem in_rI_sub {X : Cx} : InOp X .Sub (rI fun i j => i - j) := fun pins s σ H x y u v Q I rx ry h => in_sub pins s σ H x y u v Q I rx ry h
end
end Dn

end
section
set_option Elab.async false
set_option linter.all false
set_option maxRecDepth 100000
set_option maxHeartbeats 4000000
/-! {k: v for .. in .. if ..}: keys whole numbers or texts -/
namespace Dn
open PySem PySem.Spec PyProof.Rows L2
/-- the distinct numbers, as they first come -/
def ddI (ns : List Int) : List Int := PyProof.Rows.firstMet (fun i => ns.getD i 0) ns.length
def eLenSet (a : DL) : DE := fun r S => (a r S).bind fun c S => Rs.ofO (if c.isT then none else (c.get r S).bind fun xs => (intsOf xs).bind fun ns => if ns.length ≤ 4000 then some (.int (ddI ns).length) else none) S
/-- the distinct ones -/
def ddT {α : Type} [DecidableEq α] : List α → List α
  | [] => []
  | x :: l => if x ∈ l then ddT l else x :: ddT l
def intT : D → Option (List Int)
  | .tup ds => intsOf ds
  | _ => none
def eLenSetT (a : DL) : DE := fun r S => (a r S).bind fun c S => Rs.ofO (if c.isT then none else (c.get r S).bind fun xs => (xs.mapM intT).bind fun ks => if ks.length < 64 then some (.int (ddT ks).length) else none) S
/-- o[k] += e, o a numbered list of whole numbers -/
def sAugR (f : Int → Int → Int) (o k a : DE) : DS := fun r S => (o r S).toS r fun p S => (k r S).toS r fun n S => match p, n with
  | .ref l, .int j => (match S[l]? with
    | some (.lst xs) => (match atD xs j with
      | some (.int x) => (a r S).toS r fun y S => (match y with
        | .int z => (match S[l]? with
          | some (.lst ys) => (match place ys.length j with
            | some m => .next r (S.set l (.lst (ys.set m (.int (f x z)))))
            | none => .bad)
          | _ => .bad)
        | _ => .bad)
      | _ => .bad)
    | _ => .bad)
  | _, _ => .bad
/-- len(d) -/
def eLenD (d : DE) : DE := fun r S => (d r S).bind fun x S => match dctOf S x with
  | some z => .ok (.int z.2.2.length) S
  | none => .bad
/-- o.f = y -/
def fldAt (cs : List Str) (f : Str) (o : DE) (y : D) : DS := fun r S => (o r S).toS r fun p S => match p with
  | .ref l => (match S[l]? with
    | some (.ins c fs) => if c ∈ cs ∧ fs.length < 1000 then .next r (S.set l (.ins c (putFD f y fs))) else .bad
    | _ => .bad)
  | _ => .bad
/-- name, o.f = (a, b) -/
def sAsgFld (da db : DE) (g : DG) (cs : List Str) (f : Str) (o : DE) : DS := fun r S => (da r S).toS r fun x S => (db r S).toS r fun y S => match g x r S with
  | some r' => fldAt cs f o y r' S
  | none => .bad
noncomputable def dcGo (ok : Store → Prop) (g : DG) (t : DT) (k v : DE) (l : Nat) (r : Rho) : List D → Store → Rs D := open Classical in fun xs => match xs with
  | [] => fun S => if ok S then .ok (.ref l) S else .bad
  | x :: xs => fun S => if ok S then (match g x r S with
    | none => .bad
    | some r' => (noX (t r' S)).bind fun b S => if b then (noX (k r' S)).bind fun y S => (noX (v r' S)).bind fun z S => (match S[l]? with
        | some (.dct false kvs) => if kvs.length < sizeLine then (match dPut false kvs y z with
          | some kvs' => dcGo ok g t k v l r xs (S.set l (.dct false kvs'))
          | none => .bad) else .bad
        | _ => .bad) else dcGo ok g t k v l r xs S) else .bad
noncomputable def eDc (its : DI) (g : DG) (t : DT) (k v : DE) (vs : List Nat) : DE := fun r S => (its r S).bind fun w S => dcGo w.ok g t k v S.length (wipeD r vs) w.xs (S ++ [.dct false []])
theorem dcGo_ok {ok : Store → Prop} {g : DG} {t : DT} {k v : DE} {l : Nat} {r : Rho} {xs : List D} {S : Store} (h : ¬ ok S) : dcGo ok g t k v l r xs S = .bad := by
  cases xs <;> simp [dcGo, h]
variable [Tb]
theorem dc_t {G : Gx} {W : WX} {di : DI} {g : TG} {d : DG} {dt : DT} {dk de : DE} {is vs : List Nat} {s : L2.St} {H : Hp} {Q : VK} (hg : GOk G is g d) (hv : ∀ i ∈ is, i ∈ vs) (h : tE G W (eDc di d dt dk de vs) s H Q) :
    tDc (tI G W di) g (tT G (fun _ _ _ _ => False) dt) (tE G (fun _ _ _ _ => False) dk) (tE G (fun _ _ _ _ => False) de) vs s H Q := by
  obtain ⟨M, r, S, en, rh, p⟩ := h
  refine ⟨M, r, S, en, rh, (Post.bind (R := RW G) p).imp fun J H1 h => ?_⟩
  obtain ⟨M1, ⟨xs, ok⟩, S1, e1, rh1, ⟨wk, hz⟩, p1⟩ := h
  dsimp only at hz p1
  intro p0 hp0
  have en1 := (en.mono e1).wipe (vs := vs)
  obtain ⟨Mn, en0, rhn, hln⟩ := Ext.objNew (so := .dct false []) (ho := .dK []) rh1 hp0 fun M' e => .inl ⟨rfl, [], rfl, rfl⟩
  generalize S1.length = l at p1 hln
  refine ⟨fun i m H2 => m = xs.length - i ∧ i ≤ xs.length ∧ ∃ M2 S2, Ext M1 H1 M2 H2 ∧ RelH G M2 S2 H2 ∧ M2.loc l = some p0 ∧
    Post G (RD G) W M1 H1 s (dcGo ok d dt dk de l (wipeD r vs) (xs.drop i) S2) Q, ⟨xs.length, by simp, Nat.zero_le _, Mn, _, en0, rhn, hln, by simpa using p1⟩, ?_⟩
  rintro i m H2 ⟨rfl, hi, M2, S2, e2, rh2, hl2, pp⟩
  have hok : ok S2 := by
    by_cases q : ok S2
    · exact q
    · rw [dcGo_ok q] at pp; exact pp.elim
  obtain ⟨wgo, wstop⟩ := wk i M2 S2 H2 e2.le rh2 hok
  by_cases hlt : i < xs.length
  · refine .inr ⟨(wgo hlt).1, ?_⟩
    refine ⟨fun H' => i + 1 ≤ xs.length ∧ ∃ M2 S2, Ext M1 H1 M2 H' ∧ RelH G M2 S2 H' ∧ M2.loc l = some p0 ∧
      Post G (RD G) W M1 H1 s (dcGo ok d dt dk de l (wipeD r vs) (xs.drop (i + 1)) S2) Q, fun H' h => ⟨xs.length - (i + 1), by omega, rfl, h⟩, fun x H3 y => ?_⟩
    obtain ⟨M3, dx, e3, rh3, hdx, rd3⟩ := (wgo hlt).2 x H3 y
    have hdrop : xs.drop i = dx :: xs.drop (i + 1) := by
      have e : xs[i] = dx := by
        have := hdx
        rw [List.getElem?_eq_getElem hlt] at this
        exact Option.some.inj this
      rw [List.drop_eq_getElem_cons hlt, e]
    rw [hdrop] at pp
    unfold dcGo at pp
    rw [if_pos hok] at pp
    cases hgd : d dx (wipeD r vs) S2 with
    | none => rw [hgd] at pp; exact pp.elim
    | some r2 =>
      rw [hgd] at pp
      dsimp only at pp
      have en3 := (en1.mono e2).mono e3
      refine hg M3 H3 (wipeD r vs) r2 (L2.wipe s vs) S2 dx x _ en3.len rh3 rd3 hgd fun s2 u => ⟨?_, ?_⟩
      · refine wipe_same (by rw [u.ls, wipe_length]) fun j hj => ?_
        rcases u.eq j with ⟨_, q⟩ | ⟨q, _⟩
        · exact q
        · exact absurd (hv j q) hj
      refine ⟨M3, r2, S2, en3.upd u, rh3, (Post.noXb (R := RB) pp).imp fun b H4 h => ?_⟩
      obtain ⟨M4, b', S4, e4, rh4, rb, p4⟩ := h
      obtain rfl : b' = b := rb
      cases b' with
      | false =>
        simp only [Bool.false_eq_true, if_false] at p4 ⊢
        exact ⟨hlt, M4, S4, (e2.trans e3).trans e4, rh4, e4.loc _ _ (e3.loc _ _ hl2), p4⟩
      | true =>
        simp only [if_true] at p4 ⊢
        refine ⟨M4, r2, S4, (en3.upd u).mono e4, rh4, (Post.noXb (R := RD G) p4).imp fun w H5 h => ?_⟩
        obtain ⟨M5, y5, S5, e5, rh5, rw5, p5⟩ := h
        refine ⟨M5, r2, S5, ((en3.upd u).mono e4).mono e5, rh5, (Post.noXb (R := RD G) p5).imp fun z H6 h => ?_⟩
        obtain ⟨M6, z6, S6, e6, rh6, rz6, p6⟩ := h
        have hl6 : M6.loc l = some p0 := e6.loc _ _ (e5.loc _ _ (e4.loc _ _ (e3.loc _ _ hl2)))
        split at p6
        · rename_i kvs hS
          split at p6
          · rename_i hz6
            obtain ⟨a6, x1, x2⟩ := rh6.obj l _ hS
            rw [hl6] at x1; cases x1
            rcases x2 with ⟨_, us, e7, rk⟩ | ⟨c, _⟩
            · unfold dPut at p6
              rw [if_neg (by simp)] at p6
              cases q : keyOf y5 with
              | none => rw [q] at p6; exact p6.elim
              | some c =>
                rw [q] at p6
                obtain ⟨r1, r2⟩ := rh6.put (o' := .dct false (putKV keyOf kvs y5 c z6)) (ho := .dK (putK us c z)) hl6 hS (.inl ⟨rfl, _, rfl, rk.put q rz6⟩)
                exact ⟨us, c, key_v q rw5, e7, by rw [← rk.len]; exact hz6, hlt, M6, _, (((e2.trans e3).trans (e4.trans e5)).trans e6).trans r2, r1, hl6, p6⟩
            · cases c
          · exact p6.elim
        · exact p6.elim
  · have e : i = xs.length := by omega
    subst e
    refine .inl ⟨wstop (Nat.le_refl _), ?_⟩
    simp only [List.drop_length, dcGo, if_pos hok] at pp
    exact pp M2 _ H2 e2 rh2 ⟨p0, rfl, hl2⟩
theorem se_dc {X : Cx} {W : WX} {e : Expr} {di : DI} {g : TG} {d : DG} {dt : DT} {dk de : DE} {is vs : List Nat} (hg : GOk (gx X) is g d) (hv : ∀ i ∈ is, i ∈ vs) (h : PE X e (tDc (tI (gx X) W di) g (tT (gx X) WN dt) (tE (gx X) WN dk) (tE (gx X) WN de) vs)) : SE X W e (eDc di d dt dk de vs) := h.dimp fun _ _ _ => dc_t hg hv
end Dn

end
section
set_option Elab.async false
set_option linter.all false
set_option maxRecDepth 100000
set_option maxHeartbeats 4000000
/-! sorted(set(xs)), xs a list of whole numbers. -/
namespace Dn
open PySem PySem.Spec PyProof.Rows L2
variable [Tb]
/-- a set of nothing, as it is made -/
abbrev noSet (w : World) : Obj := { cls := .type "set", dict := none, data := .set #[] 0 (.fresh 0 0 (!w.params.followText "set-order")) }
section
variable {P : Program} {w : World} {A : Around} {E : Value → Shared → Prop} {s : Shared}
set_option maxHeartbeats 3200000 in
theorem set_of_list {l : Addr} {vs : Array Value} (ns : List Int) {Q : Value → Shared → Prop} (hh : A.handled = none) (hl : s.heap.IsList l vs) (hi : IntsAre vs.toList ns) (hb : ns.length + 1 < scanBound)
    (h : ∀ (h' : Heap) (tk c : Nat), SetR w h' s.heap.objs.size (fun j => decide (j ∈ ns)) c → c ≤ ns.length → (∀ b o, s.heap.get? b = some o → h'.get? b = some o) → Q (.ref s.heap.objs.size) { s with heap := h', toks := tk }) :
    wpAny (model P w) A (call (.type "set") [.ref l]) Q E s := by
  have sz : vs.size = ns.length := by
    have q := IntsAre.length hi
    rwa [Array.length_toList] at q
  obtain ⟨c, tl, hmro⟩ := F.called_set.mro
  have made := F.called_set.made
  have sub := F.called_set.sub
  have n1 := F.called_set.notType
  have n2 := F.called_set.canCreate
  have ct := F.typeCall_set_1 (.ref l)
  refine wpAny_call (codeAny_of_tree (show wpAny _ _ (callAny (.type "set") _) _ _ _ from wpAny_pure ⟨Code.quiet_builtin _ (by decide +kernel), codeAny_builtin F.entry_type_call ?_⟩))
  rw [Around.under_plain (weight_type_call_type "set" [.ref l] []) rfl]
  repeat (any_goals (first | assumption | wp_step))
  refine codeAny_mono (code_set_led1 (.ref l) (E := E) (Q₁ := fun obj t => obj = .ref s.heap.objs.size ∧ t = { s with heap := s.heap.push (noSet w) }) ⟨rfl, rfl⟩) fun r t hr => ?_
  cases r with
  | error e => exact hr
  | ok fl =>
    cases fl with
    | ret obj =>
      obtain ⟨rfl, rfl⟩ := hr
      have gS : (s.heap.push (noSet w)).get? s.heap.objs.size = some (noSet w) := Heap.get?_push_size _ rfl
      have tS : Shared.TypeIs { s with heap := s.heap.push (noSet w) } (.ref s.heap.objs.size) "set" := ⟨_, gS, rfl⟩
      have li := F.called_set.init.lookup
      have bi := F.called_set.init.bind (.ref s.heap.objs.size)
      repeat (any_goals (first | assumption | wp_step))
      refine codeAny_mono (codeAny_call_builtin (R := wants (fun r t2 => r = .none ∧ ∃ h' tk c, t2 = { s with heap := h', toks := tk } ∧ SetR w h' s.heap.objs.size (fun j => decide (j ∈ ns)) c ∧ c ≤ ns.length ∧ ∀ b o, s.heap.get? b = some o → h'.get? b = some o) E)
        F.called_set.init.plain F.entry_set_init (check_set_init_1 tS ?_)) fun r2 t2 hr2 => ?_
      · obtain ⟨⟨oc, od, odt, osl⟩, ho, hcl, nl, hd⟩ := hl
        simp only at hcl hd
        subst hcl
        subst hd
        have ho' : (s.heap.push (noSet w)).get? l = some { cls := .type "list", dict := od, data := .seq vs nl, slots := osl } := Heap.get?_push_of_some _ ho
        have f1 := F.sub_list_set
        have f2 := F.sub_list_frozenset
        have f3 : (Value.type "list" == Value.type "dict") = false := by decide
        have hl1 : (s.heap.push (noSet w)).IsList l vs := ⟨_, ho', rfl, nl, rfl⟩
        unfold Builtin.«set.__init__» noKeywords Builtin.Frozenset.updateFrom
        generalize hPI : pyIter = PI
        wp_walk
        subst hPI
        refine wpAny_pyIter_list hl1 (wpAny_bind (wpAny_runValue ?_))
        have lS : l < s.heap.objs.size := Heap.lt_size ho
        have h3 : A.in1.in1.in1.handled = none := by simp [hh]
        have z1 : (s.heap.push (noSet w)).objs.size = s.heap.objs.size + 1 := Heap.size_push ..
        have val : ∀ (i : Nat) (v : Value), vs[i]? = some v → ∃ k t, ns[i]? = some k ∧ v = .int k t := fun i v hv => by
          have hlt : i < ns.length := by rw [← sz]; exact (Array.getElem?_eq_some_iff.mp hv).1
          obtain ⟨t, e⟩ := PyProof.Rows.IntsAre.int_at hi i v (by rw [Array.getElem?_toList]; exact hv)
          refine ⟨ns[i], t, List.getElem?_eq_getElem hlt, ?_⟩
          rw [e, List.getD_eq_getElem?_getD, List.getElem?_eq_getElem hlt] <;> rfl
        refine set_update_ints ((Walks.list h3 _ l (by rw [z1]; exact Nat.ne_of_lt (Nat.lt_succ_of_lt lS)) vs).toS) s.heap.objs.size (by
          rw [z1]
          simp only [List.mem_cons, List.not_mem_nil, or_false, not_or]
          exact ⟨Nat.ne_of_lt (Nat.lt_succ_self _), Nat.ne_of_gt lS⟩) ns sz hb val (vs.size - 0) 0 _ (by omega) (Nat.zero_le _) ⟨⟨_, Heap.get?_push_size _ rfl, rfl, rfl⟩, (hl1.push _)⟩ ?gone ?gtwo
        case gone => exact ⟨0, Nat.le_refl 0, setR_new_at (Heap.get?_push_of_some _ gS)⟩
        case gtwo =>
          intro t c' hm hc' hS'
          obtain ⟨h', g2, d', tk', os'⟩ := t
          have eg : g2 = s.gens := hm.gens
          have ed : d' = s.drawn := hm.drawn
          have eo : os' = s.os := hm.os
          subst eg
          subst ed
          subst eo
          rw [sz] at hc'
          show wpAny _ _ _ _ _ _
          refine wpAny_pure ?_
          show wpAny _ _ (ret Value.none) _ _ _
          refine wpAny_pure ⟨rfl, h', tk', c', rfl, hS', hc', fun b o e => ?_⟩
          have b0 : b < s.heap.objs.size := Heap.lt_size e
          exact hm.heap b o (by
            rw [z1]
            simp only [List.mem_cons, List.not_mem_nil, or_false, not_or]
            exact ⟨Nat.ne_of_lt b0, Nat.ne_of_lt (Nat.lt_succ_of_lt b0)⟩) (Heap.get?_push_of_some _ (Heap.get?_push_of_some _ e))
      · cases r2 with
        | error e => exact hr2
        | ok fl2 =>
          cases fl2 with
          | ret r =>
            obtain ⟨rfl, h', tk, c', rfl, hS', hc', hk'⟩ := hr2
            repeat (any_goals (first | assumption | wp_step))
            exact h _ _ _ hS' hc' hk'
          | _ => exact hr2.elim
    | _ => exact hr.elim
end
end Dn

end
section
set_option Elab.async false
set_option linter.all false
set_option maxRecDepth 100000
set_option maxHeartbeats 4000000
/-! sorted(set(xs)): its rule. -/
namespace Dn
open PySem PySem.Spec PyProof.Rows L2
variable [Tb]
/-! ### the list in order, each once -/
theorem insS_mem {x k : Int} : ∀ {l : List Int}, k ∈ insS x l ↔ k = x ∨ k ∈ l
  | [] => by simp [insS]
  | y :: l => by
    unfold insS
    split
    · simp
    · split
      · rename_i h
        subst h
        simp
      · rw [List.mem_cons, insS_mem (l := l), List.mem_cons]
        constructor
        · rintro (h | h | h)
          · exact .inr (.inl h)
          · exact .inl h
          · exact .inr (.inr h)
        · rintro (h | h | h)
          · exact .inr (.inl h)
          · exact .inl h
          · exact .inr (.inr h)
theorem insS_srt {x : Int} : ∀ {l : List Int}, l.Pairwise (· < ·) → (insS x l).Pairwise (· < ·)
  | [], _ => List.pairwise_singleton _ _
  | y :: l, h => by
    obtain ⟨h1, h2⟩ := List.pairwise_cons.mp h
    unfold insS
    split
    · rename_i hxy
      refine List.pairwise_cons.mpr ⟨fun z hz => ?_, h⟩
      rcases List.mem_cons.mp hz with e | e
      · rw [e]; exact hxy
      · exact Int.lt_trans hxy (h1 z e)
    · split
      · exact h
      · refine List.pairwise_cons.mpr ⟨fun z hz => ?_, insS_srt h2⟩
        rcases insS_mem.mp hz with e | e
        · rw [e]; omega
        · exact h1 z e
theorem sortSet_mem {k : Int} : ∀ {l : List Int}, k ∈ sortSet l ↔ k ∈ l
  | [] => by simp [sortSet]
  | x :: l => by
    show k ∈ insS x (sortSet l) ↔ _
    rw [insS_mem, sortSet_mem, List.mem_cons]
theorem sortSet_srt : ∀ l : List Int, (sortSet l).Pairwise (· < ·)
  | [] => List.Pairwise.nil
  | x :: l => insS_srt (sortSet_srt l)
theorem srt_one : ∀ {l m : List Int}, l.Pairwise (· < ·) → m.Pairwise (· < ·) → (∀ k, k ∈ l ↔ k ∈ m) → l = m
  | [], [], _, _, _ => rfl
  | [], y :: m, _, _, h => absurd ((h y).mpr (List.mem_cons_self ..)) (by simp)
  | x :: l, [], _, _, h => absurd ((h x).mp (List.mem_cons_self ..)) (by simp)
  | x :: l, y :: m, h1, h2, h => by
    obtain ⟨a1, a2⟩ := List.pairwise_cons.mp h1
    obtain ⟨b1, b2⟩ := List.pairwise_cons.mp h2
    have e : x = y := by
      have q1 := (h x).mp (List.mem_cons_self ..)
      have q2 := (h y).mpr (List.mem_cons_self ..)
      rcases List.mem_cons.mp q1 with z | z
      · exact z
      · rcases List.mem_cons.mp q2 with w | w
        · exact w.symm
        · have := b1 x z
          have := a1 y w
          omega
    subst e
    rw [srt_one a2 b2 fun k => ?_]
    constructor
    · intro hk
      rcases List.mem_cons.mp ((h k).mp (List.mem_cons_of_mem _ hk)) with z | z
      · have := a1 k hk
        omega
      · exact z
    · intro hk
      rcases List.mem_cons.mp ((h k).mpr (List.mem_cons_of_mem _ hk)) with z | z
      · have := b1 k hk
        omega
      · exact z
def tSortSet (K : PySem.W.Frag) (ta : TE) : TE := fun s H Q => ta s H fun x H1 => ∃ (l : Addr) (ns : List Int), x = .ref l ∧ SqL K H1 l (ns.map V.int) ∧ ns.length < 64 ∧ ∀ p : Addr, H1 p = none → Q (.ref p) (upd H1 p (.lst ((sortSet ns).map V.int)))
theorem pe_sortSet {X : Cx} {a : Expr} {ta : TE} {p p2 q pos : Pos} (hg : Gl X "sorted") (hm : X.mg "sorted" = none) (hg2 : Gl X "set") (hm2 : X.mg "set" = none) (ha : PE X a ta) (hc : X.calm = true := by rfl)
    (na : starEach [a] X.env = (false, eval a X.env) :: starEach [] X.env := by rfl) : PE X (.Call (.Name "sorted" p) [.Call (.Name "set" p2) [a] [] q] [] pos) (tSortSet X.K ta) := by
  refine ⟨fun pins s z H Q I h => ?_⟩
  refine Call_ (ld_blt I hg hm boot_sorted ?_)
  refine PyProof.Rows.callWith_builtin1 (PyProof.Rows.args_cons ?_ rfl) rfl rfl
  refine Call_ (ld_blt I hg2 hm2 boot_set ?_)
  refine PyProof.Rows.callWith_type1 (PyProof.Rows.args_cons (thn (ha.run pins s z H _ I h) fun v s1 ⟨x, H1, I1, r1, q1⟩ => PyProof.Rows.args_nil ?_) na) na rfl
  obtain ⟨l, ns, rfl, hq, h64, q1⟩ := q1
  cases r1
  obtain ⟨its, r, pl, hz⟩ := I1.list hq
  refine set_of_list ns (I1.ok.hd hc) pl.isList (by simpa using RZ.intsAre_vals r) (by unfold scanBound; omega) fun h' tk c hS hcl hk => ?_
  refine PyProof.Rows.args_nil ?_
  have I2 : Inv X pins z H1 { s1 with heap := h', toks := tk } := I1.kept hk
  have hS2 : SetR X.w ({ s1 with heap := h', toks := tk } : Shared).heap s1.heap.objs.size (fun j => decide (j ∈ ns)) c := hS
  generalize ({ s1 with heap := h', toks := tk } : Shared) = s2 at I2 hS2 ⊢
  refine sorted_set hS2 (I2.ok.hd hc) (by omega) fun s' p out c' ms k g o hp hg hi hs hm hl => ?_
  have hms : ms = sortSet ns := srt_one hs (sortSet_srt ns) fun j => by rw [hm j, sortSet_mem]; simp
  subst hms
  have hlen : ((sortSet ns).map V.int).length ≤ sizeLine := by rw [List.length_map, hl, sizeLine_eq]; omega
  have hn : H1 p = none := I2.hok.fresh hp
  have J : Inv X pins z (upd H1 p (.lst ((sortSet ns).map V.int))) { s2 with heap := s'.heap, gens := s'.gens, drawn := s'.drawn, toks := s'.toks } :=
    I2.call (ch := []) (Un.laid k hp hn) (I2.hok.laid k hp ⟨hlen, out.toList, c', vals_of_ints hi, hg⟩) (by rw [g]; exact I2.bare) (fun _ z => nomatch z)
  have e : s' = { s2 with heap := s'.heap, gens := s'.gens, drawn := s'.drawn, toks := s'.toks } := by
    cases s'
    cases s2
    cases o
    rfl
  rw [e]
  exact ⟨.ref p, _, J, rfl, q1 p hn⟩
theorem sn_sortSet {X : Cx} {W : WX} {e : Expr} {dl : DL} (hc : PE X e (tSortSet X.K (tL (gx X) W dl))) : SN X W e (nSortSet dl) := by
  refine hc.dimp ?_
  rintro s H Q ⟨M, r, S, en, rh, p⟩
  refine ⟨M, r, S, en, rh, (Post.bind (R := RSrc (gx X) s) p).imp fun v H1 h => ?_⟩
  obtain ⟨M1, c, S1, e1, rh1, rd1, p1⟩ := h
  cases ht : c.isT with
  | true => rw [ht] at p1; exact p1.elim
  | false =>
    rw [ht] at p1
    cases q : c.get r S1 with
    | none => rw [q] at p1; exact p1.elim
    | some xs =>
      rw [q] at p1
      obtain ⟨pa, vs, rfl, h1, h2⟩ := src_ok rh1 (en.mono e1) rd1 q
      rw [ht] at h1
      dsimp only [Bool.false_eq_true, if_false, Option.bind_some] at p1
      cases q2 : intsOf xs with
      | none =>
        have p1 : Post (gx X) (RN (gx X) H) W M1 H1 s (Rs.ofO ((intsOf xs).bind fun ns => if ns.length < 64 then some ((sortSet ns).map D.int) else none) S1) Q := p1
        rw [q2] at p1; exact p1.elim
      | some ns =>
        have p1 : Post (gx X) (RN (gx X) H) W M1 H1 s (Rs.ofO ((intsOf xs).bind fun ns => if ns.length < 64 then some ((sortSet ns).map D.int) else none) S1) Q := p1
        rw [q2] at p1
        dsimp only [Option.bind_some] at p1
        split at p1
        · rename_i hl
          refine ⟨pa, ns, rfl, by rw [← ints_ok h2 q2]; exact h1, hl, fun l hn => ?_⟩
          have rel : ∀ (ms : List Int), RelDs (gx X) M1 (ms.map D.int) (ms.map V.int) := fun ms => by
            induction ms with
            | nil => exact RelDs.nil
            | cons m ms ih => exact RelDs.cons rfl ih
          refine p1 M1 _ _ (Ext.other hn) (rh1.other hn) ⟨l, _, rfl, upd_same, rel _, rh1.noloc hn, rh1.nolst hn, ?_⟩
          cases z : H l with
          | none => rfl
          | some o =>
            obtain ⟨o', z'⟩ := e1.there l o z
            rw [hn] at z'; cases z'
        · exact p1.elim
end Dn

end
section
set_option Elab.async false
set_option linter.all false
set_option maxRecDepth 100000
set_option maxHeartbeats 4000000
/-! [..] * k as a new list; <= of data that are alike -/
namespace Dn
open PySem PySem.Spec PyProof.Rows L2
/-- a list so many times, new -/
def nMul (da db : DE) : DA := fun r S => (da r S).bind fun x S => (db r S).bind fun y S => match y with
  | .int k => (match listOf S x with
    | some xs => if decide (-(2 ^ 63) ≤ k) && decide (k < 2 ^ 63) && decide (xs.length * k.toNat ≤ sizeLine) then .ok (List.replicate k.toNat xs).flatten S else .bad
    | none => .bad)
  | _ => .bad
/-- sorted(set(t)), t a tuple of whole numbers -/
def nSortSetT (a : DL) : DA := fun r S => (a r S).bind fun c S => Rs.ofO (if c.isT then (c.get r S).bind fun xs => (intsOf xs).bind fun ns => if ns.length < 64 then some ((sortSet ns).map D.int) else none else none) S
def cmpLe (x y : D) : Option Bool := if ltOk x y then some (!ltD y x) else none
section
variable [Tb] {X : Cx} {W : WX} {a b : Expr} {da db : DE} {pos : Pos}
theorem sn_mul (ha : SE X W a da) (hb : SE X W b db) : SN X W (.BinOp a .Mult b pos) (nMul da db) := by
  refine (pe_op op_mulA ha hb).dimp ?_
  rintro s H Q ⟨M, r, S, en, rh, p⟩
  refine ⟨M, r, S, en, rh, (bind2 (R := RN (gx X) H) en p).imp fun v H1 h => ?_⟩
  obtain ⟨M1, S1, e1, rh1, en1, p1⟩ := h
  refine ⟨M1, r, S1, en1, rh1, p1.imp fun u H2 h => ?_⟩
  obtain ⟨M2, x, y, S2, e2, rh2, en2, rd1, rd2, p2⟩ := h
  cases y with
  | int k =>
    dsimp only at p2
    cases h1 : listOf S2 x with
    | none => rw [h1] at p2; exact p2.elim
    | some xs =>
      rw [h1] at p2
      dsimp only at p2
      split at p2
      · rename_i hl
        obtain ⟨q, vs, rfl, q1, q2⟩ := listOf_ok rh2 rd1 h1
        cases (show _ = _ from rd2)
        simp only [Bool.and_eq_true, decide_eq_true_eq] at hl
        refine .inl (.inr ⟨q, k, vs, rfl, rfl, q1, hl.1.1, hl.1.2, by rw [← q2.len]; exact hl.2, fun z hz => ?_⟩)
        refine p2 M2 _ _ (Ext.other hz) (rh2.other hz) ⟨z, _, rfl, upd_same, q2.repl k.toNat, rh2.noloc hz, rh2.nolst hz, ?_⟩
        cases w : H z with
        | none => rfl
        | some o =>
          obtain ⟨o', w'⟩ := (e1.trans e2).there z o w
          rw [hz] at w'; cases w'
      · exact p2.elim
  | _ => exact p2.elim
def rLeD (K : PySem.W.Frag) : R2 := fun x y H Q => ∃ d e, Dp K H x d ∧ Dp K H y e ∧ d.depth ≤ 64 ∧ PySem.W.alike d e = true ∧ d ≠ .none ∧ Q (.bl (!PySem.W.dataLt e d)) H
theorem op_leD (hu : X.A.units + 64 < cLine) : OpR X (compareOp .LtE) (rLeD X.K) := by
  intro pins s z H x y v u Q I rx ry h
  obtain ⟨d, e, hd, he, h1, h2, h3, q⟩ := h
  obtain ⟨as, r1⟩ := Dp.reads I d x v hd rx
  obtain ⟨bs, r2⟩ := Dp.reads I e y u he ry
  exact PySem.W.rcLe_alike d e X.A s v u as bs r1 r2 h2 h3 (by omega) X.prog X.w X.xe _ ⟨.bl _, H, I, rfl, q⟩
theorem opb_leD {G : Gx} : OpB G (rLeD G.K) (fun _ => cmpLe) := by
  intro M S H x y b v u Q rh rx ry h k
  dsimp only [cmpLe] at h
  split at h
  · rename_i hc
    cases h
    unfold ltOk at hc
    simp only [Bool.and_eq_true] at hc
    obtain ⟨⟨⟨h1, h2⟩, h3⟩, h4⟩ := hc
    refine ⟨_, _, RelD.dp rh h1 rx, RelD.dp rh h2 ry, (P_lay h1).2, h3, ?_, k⟩
    cases x <;> simp_all [D.P]
  · cases h
end
end Dn

end
section
set_option Elab.async false
set_option linter.all false
set_option maxRecDepth 100000
set_option maxHeartbeats 4000000
/-! sorted(set(xs)), xs a tuple of whole numbers. -/
namespace Dn
open PySem PySem.Spec PyProof.Rows L2
variable [Tb]
section
variable {P : Program} {w : World} {A : Around} {E : Value → Shared → Prop} {s : Shared}
set_option maxHeartbeats 3200000 in
theorem set_of_tup {l : Addr} {vs : Array Value} (ns : List Int) {Q : Value → Shared → Prop} (hh : A.handled = none) (hl : s.heap.IsTuple l vs) (hi : IntsAre vs.toList ns) (hb : ns.length + 1 < scanBound)
    (h : ∀ (h' : Heap) (tk c : Nat), SetR w h' s.heap.objs.size (fun j => decide (j ∈ ns)) c → c ≤ ns.length → (∀ b o, s.heap.get? b = some o → h'.get? b = some o) → Q (.ref s.heap.objs.size) { s with heap := h', toks := tk }) :
    wpAny (model P w) A (call (.type "set") [.ref l]) Q E s := by
  have sz : vs.size = ns.length := by
    have q := IntsAre.length hi
    rwa [Array.length_toList] at q
  obtain ⟨c, tl, hmro⟩ := F.called_set.mro
  have made := F.called_set.made
  have sub := F.called_set.sub
  have n1 := F.called_set.notType
  have n2 := F.called_set.canCreate
  have ct := F.typeCall_set_1 (.ref l)
  refine wpAny_call (codeAny_of_tree (show wpAny _ _ (callAny (.type "set") _) _ _ _ from wpAny_pure ⟨Code.quiet_builtin _ (by decide +kernel), codeAny_builtin F.entry_type_call ?_⟩))
  rw [Around.under_plain (weight_type_call_type "set" [.ref l] []) rfl]
  repeat (any_goals (first | assumption | wp_step))
  refine codeAny_mono (code_set_led1 (.ref l) (E := E) (Q₁ := fun obj t => obj = .ref s.heap.objs.size ∧ t = { s with heap := s.heap.push (noSet w) }) ⟨rfl, rfl⟩) fun r t hr => ?_
  cases r with
  | error e => exact hr
  | ok fl =>
    cases fl with
    | ret obj =>
      obtain ⟨rfl, rfl⟩ := hr
      have gS : (s.heap.push (noSet w)).get? s.heap.objs.size = some (noSet w) := Heap.get?_push_size _ rfl
      have tS : Shared.TypeIs { s with heap := s.heap.push (noSet w) } (.ref s.heap.objs.size) "set" := ⟨_, gS, rfl⟩
      have li := F.called_set.init.lookup
      have bi := F.called_set.init.bind (.ref s.heap.objs.size)
      repeat (any_goals (first | assumption | wp_step))
      refine codeAny_mono (codeAny_call_builtin (R := wants (fun r t2 => r = .none ∧ ∃ h' tk c, t2 = { s with heap := h', toks := tk } ∧ SetR w h' s.heap.objs.size (fun j => decide (j ∈ ns)) c ∧ c ≤ ns.length ∧ ∀ b o, s.heap.get? b = some o → h'.get? b = some o) E)
        F.called_set.init.plain F.entry_set_init (check_set_init_1 tS ?_)) fun r2 t2 hr2 => ?_
      · obtain ⟨⟨oc, od, odt, osl⟩, ho, hcl, nl, hd⟩ := hl
        simp only at hcl hd
        subst hcl
        subst hd
        have ho' : (s.heap.push (noSet w)).get? l = some { cls := .type "tuple", dict := od, data := .seq vs nl, slots := osl } := Heap.get?_push_of_some _ ho
        have f1 := F.sub_tuple_set
        have f2 := F.sub_tuple_frozenset
        have f3 : (Value.type "tuple" == Value.type "dict") = false := by decide
        have hl1 : (s.heap.push (noSet w)).IsTuple l vs := ⟨_, ho', rfl, nl, rfl⟩
        unfold Builtin.«set.__init__» noKeywords Builtin.Frozenset.updateFrom
        generalize hPI : pyIter = PI
        wp_walk
        subst hPI
        refine wpAny_pyIter_tuple hl1 (wpAny_bind (wpAny_runValue ?_))
        have lS : l < s.heap.objs.size := Heap.lt_size ho
        have h3 : A.in1.in1.in1.handled = none := by simp [hh]
        have z1 : (s.heap.push (noSet w)).objs.size = s.heap.objs.size + 1 := Heap.size_push ..
        have val : ∀ (i : Nat) (v : Value), vs[i]? = some v → ∃ k t, ns[i]? = some k ∧ v = .int k t := fun i v hv => by
          have hlt : i < ns.length := by rw [← sz]; exact (Array.getElem?_eq_some_iff.mp hv).1
          obtain ⟨t, e⟩ := PyProof.Rows.IntsAre.int_at hi i v (by rw [Array.getElem?_toList]; exact hv)
          refine ⟨ns[i], t, List.getElem?_eq_getElem hlt, ?_⟩
          rw [e, List.getD_eq_getElem?_getD, List.getElem?_eq_getElem hlt] <;> rfl
        refine set_update_ints ((Walks.tuple h3 _ l (by rw [z1]; exact Nat.ne_of_lt (Nat.lt_succ_of_lt lS)) vs).toS) s.heap.objs.size (by
          rw [z1]
          simp only [List.mem_cons, List.not_mem_nil, or_false, not_or]
          exact ⟨Nat.ne_of_lt (Nat.lt_succ_self _), Nat.ne_of_gt lS⟩) ns sz hb val (vs.size - 0) 0 _ (by omega) (Nat.zero_le _) ⟨⟨_, Heap.get?_push_size _ rfl, rfl, rfl⟩, (hl1.push _)⟩ ?gone ?gtwo
        case gone => exact ⟨0, Nat.le_refl 0, setR_new_at (Heap.get?_push_of_some _ gS)⟩
        case gtwo =>
          intro t c' hm hc' hS'
          obtain ⟨h', g2, d', tk', os'⟩ := t
          have eg : g2 = s.gens := hm.gens
          have ed : d' = s.drawn := hm.drawn
          have eo : os' = s.os := hm.os
          subst eg
          subst ed
          subst eo
          rw [sz] at hc'
          show wpAny _ _ _ _ _ _
          refine wpAny_pure ?_
          show wpAny _ _ (ret Value.none) _ _ _
          refine wpAny_pure ⟨rfl, h', tk', c', rfl, hS', hc', fun b o e => ?_⟩
          have b0 : b < s.heap.objs.size := Heap.lt_size e
          exact hm.heap b o (by
            rw [z1]
            simp only [List.mem_cons, List.not_mem_nil, or_false, not_or]
            exact ⟨Nat.ne_of_lt b0, Nat.ne_of_lt (Nat.lt_succ_of_lt b0)⟩) (Heap.get?_push_of_some _ (Heap.get?_push_of_some _ e))
      · cases r2 with
        | error e => exact hr2
        | ok fl2 =>
          cases fl2 with
          | ret r =>
            obtain ⟨rfl, h', tk, c', rfl, hS', hc', hk'⟩ := hr2
            repeat (any_goals (first | assumption | wp_step))
            exact h _ _ _ hS' hc' hk'
          | _ => exact hr2.elim
    | _ => exact hr.elim
end
def tSortSetT (K : PySem.W.Frag) (ta : TE) : TE := fun s H Q => ta s H fun x H1 => ∃ (l : Addr) (ns : List Int), x = .ref l ∧ SqT K H1 l (ns.map V.int) ∧ ns.length < 64 ∧ ∀ p : Addr, H1 p = none → Q (.ref p) (upd H1 p (.lst ((sortSet ns).map V.int)))
theorem pe_sortSetT {X : Cx} {a : Expr} {ta : TE} {p p2 q pos : Pos} (hg : Gl X "sorted") (hm : X.mg "sorted" = none) (hg2 : Gl X "set") (hm2 : X.mg "set" = none) (ha : PE X a ta) (hc : X.calm = true := by rfl)
    (na : starEach [a] X.env = (false, eval a X.env) :: starEach [] X.env := by rfl) : PE X (.Call (.Name "sorted" p) [.Call (.Name "set" p2) [a] [] q] [] pos) (tSortSetT X.K ta) := by
  refine ⟨fun pins s z H Q I h => ?_⟩
  refine Call_ (ld_blt I hg hm boot_sorted ?_)
  refine PyProof.Rows.callWith_builtin1 (PyProof.Rows.args_cons ?_ rfl) rfl rfl
  refine Call_ (ld_blt I hg2 hm2 boot_set ?_)
  refine PyProof.Rows.callWith_type1 (PyProof.Rows.args_cons (thn (ha.run pins s z H _ I h) fun v s1 ⟨x, H1, I1, r1, q1⟩ => PyProof.Rows.args_nil ?_) na) na rfl
  obtain ⟨l, ns, rfl, hq, h64, q1⟩ := q1
  cases r1
  obtain ⟨its, r, pl, hz⟩ := I1.tuple hq
  refine set_of_tup ns (I1.ok.hd hc) pl (by simpa using RZ.intsAre_vals r) (by unfold scanBound; omega) fun h' tk c hS hcl hk => ?_
  refine PyProof.Rows.args_nil ?_
  have I2 : Inv X pins z H1 { s1 with heap := h', toks := tk } := I1.kept hk
  have hS2 : SetR X.w ({ s1 with heap := h', toks := tk } : Shared).heap s1.heap.objs.size (fun j => decide (j ∈ ns)) c := hS
  generalize ({ s1 with heap := h', toks := tk } : Shared) = s2 at I2 hS2 ⊢
  refine sorted_set hS2 (I2.ok.hd hc) (by omega) fun s' p out c' ms k g o hp hg hi hs hm hl => ?_
  have hms : ms = sortSet ns := srt_one hs (sortSet_srt ns) fun j => by rw [hm j, sortSet_mem]; simp
  subst hms
  have hlen : ((sortSet ns).map V.int).length ≤ sizeLine := by rw [List.length_map, hl, sizeLine_eq]; omega
  have hn : H1 p = none := I2.hok.fresh hp
  have J : Inv X pins z (upd H1 p (.lst ((sortSet ns).map V.int))) { s2 with heap := s'.heap, gens := s'.gens, drawn := s'.drawn, toks := s'.toks } :=
    I2.call (ch := []) (Un.laid k hp hn) (I2.hok.laid k hp ⟨hlen, out.toList, c', vals_of_ints hi, hg⟩) (by rw [g]; exact I2.bare) (fun _ z => nomatch z)
  have e : s' = { s2 with heap := s'.heap, gens := s'.gens, drawn := s'.drawn, toks := s'.toks } := by
    cases s'
    cases s2
    cases o
    rfl
  rw [e]
  exact ⟨.ref p, _, J, rfl, q1 p hn⟩
theorem sn_sortSetT {X : Cx} {W : WX} {e : Expr} {dl : DL} (hc : PE X e (tSortSetT X.K (tL (gx X) W dl))) : SN X W e (nSortSetT dl) := by
  refine hc.dimp ?_
  rintro s H Q ⟨M, r, S, en, rh, p⟩
  refine ⟨M, r, S, en, rh, (Post.bind (R := RSrc (gx X) s) p).imp fun v H1 h => ?_⟩
  obtain ⟨M1, c, S1, e1, rh1, rd1, p1⟩ := h
  cases ht : c.isT with
  | false => rw [ht] at p1; exact p1.elim
  | true =>
    rw [ht] at p1
    cases q : c.get r S1 with
    | none => rw [q] at p1; exact p1.elim
    | some xs =>
      rw [q] at p1
      obtain ⟨pa, vs, rfl, h1, h2⟩ := src_ok rh1 (en.mono e1) rd1 q
      rw [ht] at h1
      dsimp only [if_true, Option.bind_some] at p1
      cases q2 : intsOf xs with
      | none =>
        have p1 : Post (gx X) (RN (gx X) H) W M1 H1 s (Rs.ofO ((intsOf xs).bind fun ns => if ns.length < 64 then some ((sortSet ns).map D.int) else none) S1) Q := p1
        rw [q2] at p1; exact p1.elim
      | some ns =>
        have p1 : Post (gx X) (RN (gx X) H) W M1 H1 s (Rs.ofO ((intsOf xs).bind fun ns => if ns.length < 64 then some ((sortSet ns).map D.int) else none) S1) Q := p1
        rw [q2] at p1
        dsimp only [Option.bind_some] at p1
        split at p1
        · rename_i hl
          refine ⟨pa, ns, rfl, by rw [← ints_ok h2 q2]; exact h1, hl, fun l hn => ?_⟩
          have rel : ∀ (ms : List Int), RelDs (gx X) M1 (ms.map D.int) (ms.map V.int) := fun ms => by
            induction ms with
            | nil => exact RelDs.nil
            | cons m ms ih => exact RelDs.cons rfl ih
          refine p1 M1 _ _ (Ext.other hn) (rh1.other hn) ⟨l, _, rfl, upd_same, rel _, rh1.noloc hn, rh1.nolst hn, ?_⟩
          cases z : H l with
          | none => rfl
          | some o =>
            obtain ⟨o', z'⟩ := e1.there l o z
            rw [hn] at z'; cases z'
        · exact p1.elim
end Dn

end
section
set_option Elab.async false
set_option linter.all false
set_option maxRecDepth 100000
set_option maxHeartbeats 4000000
/-! name, o.f = (a, b) -/
namespace Dn
open PySem PySem.Spec PyProof.Rows L2
def gFldT (K : PySem.W.Frag) (to : TE) (f : Str) : TG := fun v σ H Q => to σ H fun x H1 => ∃ a C dx fs, x = .ref a ∧ H1 a = some (.ins C dx fs) ∧ Cls K C ∧ NoAttr K C f ∧ fs.length < 1000 ∧ Q σ (upd H1 a (.ins C dx (putF f v fs)))
theorem pg_fld {X : Cx} {o : Expr} {to : TE} {f : Str} {pos : Pos} (ho : PE X o to) : PG X (.Attribute o f pos) (gFldT X.K to f) := by
  refine ⟨fun pins s σ H v u Q I r h => ?_⟩
  rw [assign_Attribute]
  refine wpAny_bind (wpAny_holding (thn (ho.run pins s σ H _ I h) fun ov s1 ⟨x, H1, I1, rx, a, C, dx, fs, ex, ea, c, n, l, q⟩ => ?_))
  subst ex
  obtain rfl : ov = Value.ref a := rx
  refine wpAny_bind (wpAny_standAt (wpAny_bind (wpAny_holding (setattr_ok I1 ea c n l r fun s3 I3 => ?_))))
  exact wpAny_release ⟨σ, _, I3, q⟩
variable [Tb]
theorem ss_asgFld {X : Cx} {M0 : Mp} {H0 : Hp} {W : WX} {tg e : Expr} {da db dob : DE} {pos : Pos} {is : List Nat} {g1 : TG} {d1 : DG} {f : Str} {cs : List Str} (hf : ∀ c ∈ cs, FldOk (gx X) c f) (he : SE X W e (eTup (aCons da (aCons db aNil)))) (hg : PG X tg (gTup X.K 2 (gCons g1 (gCons (gFldT X.K (tE (gx X) W dob) f) gNil)))) (k : GOk (gx X) is g1 d1)
    (hs : swapsWithSole [tg] e pos.line X.env = pure false := by rfl) (hw : swappedStores [tg] e X.env = pure none := by rfl) (h1 : (assignEach [tg] X.env).map (·.2) = [assign tg X.env] := by rfl) : SS X M0 H0 W (.Assign [tg] e pos) (sAsgFld da db d1 cs f dob) := by
  refine (ps_asg he hg hs hw h1).dimp ?_
  rintro D s H ⟨M, r, S, w, p⟩
  have p : PostS (gx X) M0 H0 W M (((eTup (aCons da (aCons db aNil))) r S).toS r fun v S => match v with
      | .tup [x, y] => (match d1 x r S with
        | some r' => fldAt cs f dob y r' S
        | none => .bad)
      | _ => .bad) D := by
    unfold sAsgFld at p
    unfold eTup aCons aNil
    cases q1 : da r S with
    | ok x S1 =>
      rw [q1] at p
      simp only [Rs.toS_ok] at p
      simp only [Rs.bind_ok]
      cases q2 : db r S1 with
      | ok y S2 =>
        rw [q2] at p
        simp only [Rs.toS_ok] at p
        have hz : 2 ≤ sizeLine := by rw [sizeLine_eq]; omega
        cases q3 : d1 x r S2 with
        | none => rw [q3] at p; exact p.elim
        | some r' => rw [q3] at p; simpa [hz, q3] using p
      | exc c fs S2 => rw [q2] at p; simpa using p
      | bad => rw [q2] at p; simpa using p
    | exc c fs S1 => rw [q1] at p; simpa using p
    | bad => rw [q1] at p; simpa using p
  refine ⟨M, r, S, w.env, w.heap, (PostS.toS (R := RD (gx X)) w p).imp fun v H1 h => ?_⟩
  obtain ⟨M1, d, S1, w1, e1, rv, p1⟩ := h
  split at p1
  · rename_i x y
    obtain ⟨pa, vs, rfl, q1, q2⟩ := tup_ok w1.heap rv
    obtain ⟨v1, r1, rfl, rx, rr⟩ := q2
    obtain ⟨v2, r2, rfl, ry, rn⟩ := rr
    cases (show _ = _ from rn)
    refine ⟨pa, [v1, v2], rfl, q1, rfl, v1, [v2], rfl, ?_⟩
    cases q : d1 x r S1 with
    | none => rw [q] at p1; exact p1.elim
    | some r' =>
      rw [q] at p1
      dsimp only [fldAt] at p1
      refine k M1 H1 r r' s S1 x v1 _ w1.env.len w1.heap rx q fun s2 u => ?_
      have w2 := w1.upd u
      refine ⟨v2, [], rfl, M1, r', S1, w2.env, w2.heap, (PostS.toS (R := RD (gx X)) w2 p1).imp fun z2 H3 h => ?_⟩
      obtain ⟨M3, n, S3, w3, e3, rn, p3⟩ := h
      split at p3
      · rename_i l
        obtain ⟨pb, rfl, h3⟩ := rn
        split at p3
        · rename_i c fs q3
          split at p3
          · rename_i hc
            obtain ⟨a2, x1, C, dx, vfs, x2, x3, x4⟩ := w3.heap.obj l _ q3
            rw [h3] at x1; cases x1
            obtain ⟨k1, k2⟩ := hf c hc.1 C x3
            obtain ⟨y1, y2⟩ := w3.heap.put (o' := .ins c (putFD f y fs)) (ho := .ins C dx (putF f v2 vfs)) h3 q3 ⟨C, dx, _, rfl, x3, x4.put (RelD.mono e3 ry)⟩
            exact ⟨pb, C, dx, vfs, rfl, x2, k1, k2, by rw [← x4.len]; exact hc.2, rfl, p3 M3 s2 _ (w3.mono y2 y1) Le.refl⟩
          · exact p3.elim
        · exact p3.elim
      · exact p3.elim
  · exact p1.elim
end Dn

end
section
set_option Elab.async false
set_option linter.all false
set_option maxRecDepth 100000
set_option maxHeartbeats 4000000
open PySem Dn
namespace Pg
/-- Buckets.__eq__ (0 self, 1 other) -/
noncomputable def b_Buckets___eq__ : DS := sRet (eAnd (eIsOwn "Buckets" [] (eVar 1)) (eCmp cmpEq (eTup (aCons (eFld ["Buckets"] "bottom" (eVar 0)) (aCons (eFld ["Buckets"] "rows" (eVar 0)) (aNil)))) (eTup (aCons (eFld ["Buckets"] "bottom" (eVar 1)) (aCons (eFld ["Buckets"] "rows" (eVar 1)) (aNil))))))
noncomputable def m_Buckets___eq__ : Fn := fnD 2 2 b_Buckets___eq__
end Pg
open Pg
namespace Pg
/-- is_integer (0 thing) -/
noncomputable def b_is_integer : DS := sRet (eAnd (eIsTy "int" (eVar 0)) (eNot (eIsTy "bool" (eVar 0))))
noncomputable def m_is_integer : Fn := fnD 1 1 b_is_integer
end Pg
open Pg
namespace Pg
/-- is_within (0 thing, 1 least, 2 most) -/
noncomputable def b_is_within : DS := sRet (eAnd (eCall m_is_integer (aCons (eVar 0) (aNil))) (eChain (fun _ => cmpI iLe) (fun _ => cmpI iLe) (eVar 1) (eVar 0) (eVar 2)))
noncomputable def m_is_within : Fn := fnD 3 3 b_is_within
end Pg
open Pg
namespace Pg
/-- is_row (0 bottom, 1 thing) -/
noncomputable def b_is_row : DS := sSeq (sIf (tOfB (eCmp1 cmpIsN (eVar 1))) (sRet (eC (.bl true))) (sNext)) (sSeq (sIf (tOrD (tNotD (tOfB (eIsTy "tuple" (eVar 1)))) (tOrD (tOfB (eCmp cmpNe (eLen (lE (eVar 1))) (eC (.int 3)))) (tNotD (tOfB (eCall m_is_within (aCons (eIx (lE (eVar 1)) (eC (.int 0))) (aCons (eC (.int 1)) (aCons (eC (.int 20)) (aNil))))))))) (sRet (eC (.bl false))) (sNext)) (sRet (eAnd (eCall m_is_within (aCons (eIx (lE (eVar 1)) (eC (.int 1))) (aCons (eC (.int 0)) (aCons (eVar 0) (aNil))))) (eCall m_is_within (aCons (eIx (lE (eVar 1)) (eC (.int 2))) (aCons (eC (.int 0)) (aCons (eOp (fun _ => opSub) (eC (.int 8)) (eC (.int 1))) (aNil))))))))
noncomputable def m_is_row : Fn := fnD 2 2 b_is_row
end Pg
open Pg
namespace Pg
/-- Buckets.__init__ (0 self, 1 bottom, 2 rows, 3 number, 4 row) -/
noncomputable def b_Buckets_init : DS := sSeq (sIf (tNotD (tOfB (eCall m_is_within (aCons (eVar 1) (aCons (eC (.int 1)) (aCons (eC (.int 20)) (aNil))))))) (sRaiseA "BadBuckets" 1 [("part", 1)] (aCons (eC (.str "bottom")) (aNil))) (sNext)) (sSeq (sIf (tOrD (tNotD (tOfB (eIsTy "tuple" (eVar 2)))) (tNotD (tOfB (eChain (fun _ => cmpI iLe) (fun _ => cmpI iLe) (eC (.int 1)) (eLen (lE (eVar 2))) (eC (.int 12)))))) (sRaiseA "BadBuckets" 1 [("part", 1)] (aCons (eC (.str "rows")) (aNil))) (sNext)) (sSeq (sFor (iEnumAD (eVar 2)) (gTupD 2 (gsCons (gNameD 3) (gsCons (gNameD 4) (gsNil)))) (sIf (tNotD (tOfB (eCall m_is_row (aCons (eVar 1) (aCons (eVar 4) (aNil)))))) (sRaiseA "BadBuckets" 1 [("part", 1)] (aCons (eVar 3) (aNil))) (sNext))) (sSeq (sFldD ["Buckets"] "bottom" (eVar 0) (eVar 1)) (sFldD ["Buckets"] "rows" (eVar 0) (eVar 2)))))
noncomputable def m_Buckets_init : Fn := fnD 3 5 b_Buckets_init
end Pg
open Pg
namespace L54
/-- _law_sent (0 _law_row, 1 _law_bottom, 2 _law_beats) -/
noncomputable def b__law_sent : DS := sRet (eIf (tOfB (eCmp1 cmpIsN (eVar 0))) (eC (.int 0)) (eMin2 (eVar 2) (eOp opAdd (eIx (lE (eVar 0)) (eC (.int 0))) (eInt (eOp (fun _ => opDiv) (eOp opMul (eIx (lE (eVar 0)) (eC (.int 1))) (eVar 2)) (eVar 1))))))
noncomputable def m__law_sent : Fn := fnD 3 3 b__law_sent
end L54
namespace L54
/-- _law_breach (0 _law_rows_here, 1 _law_bottom, 2 _law_stream_here, 3 _law_to, 4 _law_line, 5 _law_row, 6 _law_many, 7 _law_begin) -/
noncomputable def b__law_breach : DS := sSeq (sFor (iRange1 (eLen (lE (eVar 2)))) (gNameD 3) (sFor (iEnumAD (eVar 0)) (gTupD 2 (gsCons (gNameD 4) (gsCons (gNameD 5) (gsNil)))) (sSeq (sSet 6 (eC (.int 0))) (sFor (iRange3 (eVar 3) (eUn opNeg (eC (.int 1))) (eUn opNeg (eC (.int 1)))) (gNameD 7) (sSeq (sSet 6 (eOp opAdd (eVar 6) (eInt (eIn false (eVar 4) (lE (eIx (lE (eVar 2)) (eVar 7))))))) (sIf (tOfB (eCmp (fun _ => cmpI iGt) (eVar 6) (eCall m__law_sent (aCons (eVar 5) (aCons (eVar 1) (aCons (eOp opAdd (eOp (fun _ => opSub) (eVar 3) (eVar 7)) (eC (.int 1))) (aNil))))))) (sRet (eTup (aCons (eVar 4) (aCons (eVar 7) (aCons (eVar 3) (aNil)))))) (sNext))))))) (sRet (eC .non))
noncomputable def m__law_breach : Fn := fnD 3 8 b__law_breach
end L54
namespace L54
/-- _law_draw (0 _law_hand_here, 1 _law_many, 2 _law_cell, 3 _law_digit, 4 _law_number) -/
noncomputable def b__law_draw : DS := sSeq (sIf (tAndD (tOfB (eCmp cmpEq (eIx (lE (eVar 0)) (eC (.int 2))) (eC (.int 0)))) (tOfB (eCmp (fun _ => cmpI iLt) (eIx (lE (eVar 0)) (eC (.int 1))) (eLen (lE (eIx (lE (eVar 0)) (eC (.int 0)))))))) (sSeq (sSet 2 (eIx (lE (eIx (lE (eVar 0)) (eC (.int 0)))) (eIx (lE (eVar 0)) (eC (.int 1))))) (sSeq (sPutR (eVar 0) (eC (.int 1)) (eOp opAdd (eIx (lE (eVar 0)) (eC (.int 1))) (eC (.int 1)))) (sSeq (sPutR (eVar 0) (eC (.int 3)) (eOp (fun _ => opMod) (eInt (eOp opAdd (eOp opAdd (eOp opMul (eIx (lE (eVar 0)) (eC (.int 3))) (eC (.int 69621))) (eVar 2)) (eC (.int 11)))) (eC (.int 2147483629)))) (sIf (tOfB (eCmp (fun _ => cmpI iGe) (eVar 2) (eOp (fun _ => opPow) (eC (.int 10)) (eC (.int 18))))) (sPutR (eVar 0) (eC (.int 2)) (eVar 2)) (sNext))))) (sNext)) (sSeq (sIf (tOfB (eCmp (fun _ => cmpI iGt) (eIx (lE (eVar 0)) (eC (.int 2))) (eC (.int 0)))) (sSeq (sSet 3 (eOp (fun _ => opMod) (eInt (eIx (lE (eVar 0)) (eC (.int 2)))) (eVar 1))) (sSeq (sPutR (eVar 0) (eC (.int 2)) (eOp (fun _ => opDiv) (eIx (lE (eVar 0)) (eC (.int 2))) (eVar 1))) (sRet (eVar 3)))) (sNext)) (sSeq (sPutR (eVar 0) (eC (.int 4)) (eOp opAdd (eIx (lE (eVar 0)) (eC (.int 4))) (eC (.int 1)))) (sSeq (sSet 4 (eOp (fun _ => opMod) (eInt (eOp opMul (eInt (eOp opAdd (eIx (lE (eVar 0)) (eC (.int 3))) (eOp opMul (eC (.int 7919)) (eIx (lE (eVar 0)) (eC (.int 4)))))) (eC (.int 48271)))) (eC (.int 2147483647)))) (sSeq (sSet 4 (eOp (fun _ => opMod) (eInt (eOp opMul (eVar 4) (eOp opAdd (eOp (fun _ => opDiv) (eVar 4) (eC (.int 1009))) (eC (.int 69621))))) (eC (.int 2147483647)))) (sSeq (sSet 4 (eOp (fun _ => opMod) (eInt (eOp opMul (eVar 4) (eOp opAdd (eOp (fun _ => opDiv) (eVar 4) (eC (.int 2003))) (eC (.int 40692))))) (eC (.int 2147483399)))) (sRet (eOp (fun _ => opMod) (eInt (eOp (fun _ => opDiv) (eVar 4) (eC (.int 16)))) (eVar 1))))))))
noncomputable def m__law_draw : Fn := fnD 2 5 b__law_draw
end L54
namespace L54
/-- _law_hand (0 _law_script, 1 _law_cells, 2 _law_cell) -/
noncomputable def b__law_hand : DS := sSeq (sSet 1 (eFrz (nLc (iSeqD (eSlice (lE (eVar 0)) oNone (oSome (eC (.int 63))))) (gNameD 2) (tYesD) (eAbs (eInt (eVar 2))) [2]))) (sRet (eNew (nLst (aCons (eVar 1) (aCons (eC (.int 0)) (aCons (eC (.int 0)) (aCons (eOp opAdd (eC (.int 1)) (eLen (lE (eVar 1)))) (aCons (eC (.int 0)) (aNil)))))))))
noncomputable def m__law_hand : Fn := fnD 1 3 b__law_hand
end L54
namespace L54
/-- _law_deep (0 _law_hand_here, 1 _law_found, 2 _law_turn) -/
noncomputable def b__law_deep : DS := sSeq (sSet 1 (eIx (lE (eFrz (nLst (aCons (eC .non) (aCons (eTup (aNil)) (aCons (eC (.int 0)) (aCons (eC (.str "a")) (aNil)))))))) (eCall m__law_draw (aCons (eVar 0) (aCons (eC (.int 4)) (aNil)))))) (sSeq (sFor (iRange1 (eOp opAdd (eC (.int 2)) (eCall m__law_draw (aCons (eVar 0) (aCons (eC (.int 28)) (aNil)))))) (gNameD 2) (sSet 1 (eIx (lE (eFrz (nLst (aCons (eTup (aCons (eVar 1) (aNil))) (aCons (eFrz (nLst (aCons (eVar 1) (aNil)))) (aNil)))))) (eCall m__law_draw (aCons (eVar 0) (aCons (eC (.int 2)) (aNil))))))) (sRet (eVar 1)))
noncomputable def m__law_deep : Fn := fnD 1 3 b__law_deep
end L54
namespace L54
/-- _law_is_int (0 _law_thing, 1 _law_least, 2 _law_most) -/
noncomputable def b__law_is_int : DS := sRet (eAnd (eIsTy "int" (eVar 0)) (eAnd (eNot (eIsTy "bool" (eVar 0))) (eChain (fun _ => cmpI iLe) (fun _ => cmpI iLe) (eVar 1) (eVar 0) (eVar 2))))
noncomputable def m__law_is_int : Fn := fnD 3 3 b__law_is_int
end L54
namespace L54
/-- _law_is_row (0 _law_bottom, 1 _law_thing) -/
noncomputable def b__law_is_row : DS := sSeq (sIf (tOfB (eCmp1 cmpIsN (eVar 1))) (sRet (eC (.bl true))) (sNext)) (sSeq (sIf (tOrD (tNotD (tOfB (eIsTy "tuple" (eVar 1)))) (tOfB (eCmp cmpNe (eLen (lE (eVar 1))) (eC (.int 3))))) (sRet (eC (.bl false))) (sNext)) (sRet (eAnd (eCall m__law_is_int (aCons (eIx (lE (eVar 1)) (eC (.int 0))) (aCons (eC (.int 1)) (aCons (eC (.int 20)) (aNil))))) (eAnd (eCall m__law_is_int (aCons (eIx (lE (eVar 1)) (eC (.int 1))) (aCons (eC (.int 0)) (aCons (eVar 0) (aNil))))) (eCall m__law_is_int (aCons (eIx (lE (eVar 1)) (eC (.int 2))) (aCons (eC (.int 0)) (aCons (eC (.int 7)) (aNil)))))))))
noncomputable def m__law_is_row : Fn := fnD 2 2 b__law_is_row
end L54
namespace L54
/-- _law_due (0 _law_bottom, 1 _law_rows_here, 2 _law_line, 3 _law_row) -/
noncomputable def b__law_due : DS := sSeq (sIf (tNotD (tOfB (eCall m__law_is_int (aCons (eVar 0) (aCons (eC (.int 1)) (aCons (eC (.int 20)) (aNil))))))) (sRet (eC (.str "bottom"))) (sNext)) (sSeq (sIf (tOrD (tNotD (tOfB (eIsTy "tuple" (eVar 1)))) (tNotD (tOfB (eChain (fun _ => cmpI iLe) (fun _ => cmpI iLe) (eC (.int 1)) (eLen (lE (eVar 1))) (eC (.int 12)))))) (sRet (eC (.str "rows"))) (sNext)) (sSeq (sFor (iEnumAD (eVar 1)) (gTupD 2 (gsCons (gNameD 2) (gsCons (gNameD 3) (gsNil)))) (sIf (tNotD (tOfB (eCall m__law_is_row (aCons (eVar 0) (aCons (eVar 3) (aNil)))))) (sRet (eVar 2)) (sNext))) (sRet (eC .non))))
noncomputable def m__law_due : Fn := fnD 2 4 b__law_due
end L54
namespace L54
/-- _law_pick (0 _law_hand_here, 1 _law_things) -/
noncomputable def b__law_pick : DS := sRet (eIx (lE (eVar 1)) (eCall m__law_draw (aCons (eVar 0) (aCons (eLen (lE (eVar 1))) (aNil)))))
noncomputable def m__law_pick : Fn := fnD 2 2 b__law_pick
end L54
namespace L54
/-- _law_odd_rows (0 _law_hand_here, 1 _law_bottom, 2 _law_rows_here, 3 _law_at, 4 _law_row, 5 _law_side, 6 _law_part, 7 _law_more, 8 _law_some) -/
noncomputable def b__law_odd_rows : DS := sSeq (sSet 3 (eCall m__law_draw (aCons (eVar 0) (aCons (eLen (lE (eVar 2))) (aNil))))) (sSeq (sSet 4 (eIf (tOfB (eCmp1 (fun x => (cmpIsN x).map (!·)) (eIx (lE (eVar 2)) (eVar 3)))) (eIx (lE (eVar 2)) (eVar 3)) (eTup (aCons (eC (.int 1)) (aCons (eC (.int 0)) (aCons (eC (.int 0)) (aNil))))))) (sSeq (sSet 5 (eCall m__law_draw (aCons (eVar 0) (aCons (eC (.int 3)) (aNil))))) (sSeq (sSet 6 (eCall m__law_pick (aCons (eVar 0) (aCons (eFrz (nLst (aCons (eUn opNeg (eC (.int 1))) (aCons (eC (.int 0)) (aCons (eC (.int 21)) (aCons (eOp opAdd (eVar 1) (eC (.int 1))) (aCons (eC (.int 8)) (aCons (eC (.bl true)) (aCons (eC .non) (aCons (eC (.str "1")) (aCons (eTup (aCons (eC (.int 1)) (aNil))) (aCons (eCall m__law_deep (aCons (eVar 0) (aNil))) (aNil))))))))))))) (aNil))))) (sSeq (sSet 7 (eOp opAdd (eOp opAdd (eSlice (lE (eVar 4)) oNone (oSome (eVar 5))) (eTup (aCons (eVar 6) (aNil)))) (eSlice (lE (eVar 4)) (oSome (eOp opAdd (eVar 5) (eC (.int 1)))) oNone))) (sSeq (sSet 8 (eFrz (nLst (aCons (eOp opAdd (eOp opAdd (eSlice (lE (eVar 2)) oNone (oSome (eVar 3))) (eTup (aCons (eVar 7) (aNil)))) (eSlice (lE (eVar 2)) (oSome (eOp opAdd (eVar 3) (eC (.int 1)))) oNone)) (aCons (eOp opAdd (eOp opAdd (eSlice (lE (eVar 2)) oNone (oSome (eVar 3))) (eTup (aCons (eFrz (nLstOf (lE (eVar 4)))) (aNil)))) (eSlice (lE (eVar 2)) (oSome (eOp opAdd (eVar 3) (eC (.int 1)))) oNone)) (aCons (eFrz (nLstOf (lE (eVar 2)))) (aCons (eTup (aNil)) (aNil)))))))) (sSeq (sSet 8 (eOp opAdd (eVar 8) (eFrz (nLst (aCons (eOp opMul (eVar 2) (eC (.int 7))) (aCons (eC .non) (aNil))))))) (sRet (eCall m__law_pick (aCons (eVar 0) (aCons (eOp opAdd (eVar 8) (eFrz (nLst (aCons (eIx (lE (eVar 8)) (eC (.int 0))) (aCons (eIx (lE (eVar 8)) (eC (.int 0))) (aCons (eOp opAdd (eOp opAdd (eSlice (lE (eVar 2)) oNone (oSome (eVar 3))) (eTup (aCons (eSlice (lE (eVar 4)) oNone (oSome (eC (.int 2)))) (aNil)))) (eSlice (lE (eVar 2)) (oSome (eOp opAdd (eVar 3) (eC (.int 1)))) oNone)) (aNil))))))) (aNil)))))))))))
noncomputable def m__law_odd_rows : Fn := fnD 3 9 b__law_odd_rows
end L54
namespace L54
/-- _law_same (0 _law_told_here, 1 _law_due_here, 2 _law_one, 3 _law_two) -/
noncomputable def b__law_same (self : Fn) : DS := sSeq (sIf (tOfB (eIsTy2 "tuple" "list" (eVar 1))) (sSeq (sIf (tOrD (tOfB (eCmp cmpNe (eIsTy "tuple" (eVar 0)) (eIsTy "tuple" (eVar 1)))) (tNotD (tOfB (eIsTy2 "tuple" "list" (eVar 0))))) (sRet (eC (.bl false))) (sNext)) (sRet (eAnd (eCmp cmpEq (eLen (lE (eVar 0))) (eLen (lE (eVar 1)))) (eAll (lE (eFrz (nLc (iZipD (eVar 0) (eVar 1)) (gTupD 2 (gsCons (gNameD 2) (gsCons (gNameD 3) (gsNil)))) (tYesD) (eCall self (aCons (eVar 2) (aCons (eVar 3) (aNil)))) [2, 3]))))))) (sNext)) (sRet (eAnd (eCmp cmpEq (eIsTy "bool" (eVar 0)) (eIsTy "bool" (eVar 1))) (eCmp cmpEq (eVar 0) (eVar 1))))
noncomputable def m__law_same_n : Nat → Fn
  | 0 => fun _ _ => .bad
  | n + 1 => fnD 2 4 (b__law_same (m__law_same_n n))
noncomputable def m__law_same : Fn := m__law_same_n 4
end L54
namespace L54
/-- _law_told (0 _law_bottom, 1 _law_rows_here, 2 _law_found, 3 e) -/
noncomputable def b__law_told : DS := sSeq (sSet 2 (eTup (aCons (eC (.str "other")) (aCons (eC .non) (aNil))))) (sSeq (sTry (sSet 2 (eTup (aCons (eC .non) (aCons (eMake "Buckets" m_Buckets_init (aCons (eVar 0) (aCons (eVar 1) (aNil)))) (aNil))))) [(["BadBuckets"], ["NoLine", "NoNumber", "NoStream"], some 3, sSet 2 (eTup (aCons (eExcF 3 ["BadBuckets"] "part") (aCons (eC .non) (aNil)))))]) (sRet (eVar 2)))
noncomputable def m__law_told : Fn := fnD 2 4 b__law_told
end L54
namespace L54
/-- _law_judged_right (0 _law_hand_here, 1 _law_bottom, 2 _law_rows_here, 3 _law_odd, 4 _law_some, 5 _law_part, 6 _law_told_here) -/
noncomputable def b__law_judged_right : DS := sSeq (sSet 3 (eCall m__law_pick (aCons (eVar 0) (aCons (eFrz (nLst (aCons (eVar 1) (aCons (eVar 1) (aCons (eC (.int 0)) (aCons (eC (.int 21)) (aCons (eUn opNeg (eC (.int 1))) (aCons (eC (.bl true)) (aCons (eC .non) (aCons (eC (.str "5")) (aCons (eTup (aCons (eC (.int 5)) (aNil))) (aCons (eCall m__law_deep (aCons (eVar 0) (aNil))) (aNil))))))))))))) (aNil))))) (sSeq (sSet 4 (eCall m__law_odd_rows (aCons (eVar 0) (aCons (eVar 1) (aCons (eVar 2) (aNil)))))) (sSeq (sAsg (eCall m__law_told (aCons (eVar 3) (aCons (eVar 4) (aNil)))) (gTupD 2 (gsCons (gNameD 5) (gsCons (gNameD 6) (gsNil))))) (sSeq (sIf (tNotD (tOfB (eCall m__law_same (aCons (eVar 5) (aCons (eCall m__law_due (aCons (eVar 3) (aCons (eVar 4) (aNil)))) (aNil)))))) (sRet (eC (.bl false))) (sNext)) (sRet (eOr (eCmp1 (fun x => (cmpIsN x).map (!·)) (eVar 5)) (eCall m__law_same (aCons (eFrz (nLst (aCons (eFld ["Buckets"] "bottom" (eVar 6)) (aCons (eFld ["Buckets"] "rows" (eVar 6)) (aNil))))) (aCons (eFrz (nLst (aCons (eVar 3) (aCons (eVar 4) (aNil))))) (aNil)))))))))
noncomputable def m__law_judged_right : Fn := fnD 3 7 b__law_judged_right
end L54
namespace Pg
/-- Sent.__init__ (0 self, 1 bottom, 2 row) -/
noncomputable def b_Sent_init : DS := sSeq (sFldD ["Sent"] "kept_bottom" (eVar 0) (eVar 1)) (sSeq (sFldD ["Sent"] "kept_row" (eVar 0) (eVar 2)) (sSeq (sFldD ["Sent"] "kept_levels" (eVar 0) (eNew (nLst (aCons (eC (.int 0)) (aNil))))) (sFldD ["Sent"] "kept_least" (eVar 0) (eC (.int 0)))))
noncomputable def m_Sent_init : Fn := fnD 3 3 b_Sent_init
end Pg
open Pg
namespace Pg
/-- Sent.take (0 self, 1 sends, 2 step, 3 level, 4 bound, 5 elder, 6 at, 7 one) -/
noncomputable def b_Sent_take : DS := sSeq (sIf (tOfB (eCmp1 cmpIsN (eFld ["Sent"] "kept_row" (eVar 0)))) (sSeq (sDrop (eAppR (eFld ["Sent"] "kept_levels" (eVar 0)) (eC (.int 0)))) (sRet (eIf (tOfB (eVar 1)) (eOp (fun _ => opSub) (eLen (lE (eFld ["Sent"] "kept_levels" (eVar 0)))) (eC (.int 2))) (eC .non)))) (sNext)) (sSeq (sSet 2 (eIf (tOfB (eVar 1)) (eFld ["Sent"] "kept_bottom" (eVar 0)) (eC (.int 0)))) (sSeq (sSet 3 (eOp (fun _ => opSub) (eOp opAdd (eIx (lE (eFld ["Sent"] "kept_levels" (eVar 0))) (eUn opNeg (eC (.int 1)))) (eVar 2)) (eIx (lE (eFld ["Sent"] "kept_row" (eVar 0))) (eC (.int 1))))) (sSeq (sDrop (eAppR (eFld ["Sent"] "kept_levels" (eVar 0)) (eVar 3))) (sSeq (sSet 4 (eOp (fun _ => opSub) (eVar 3) (eOp opMul (eFld ["Sent"] "kept_bottom" (eVar 0)) (eIx (lE (eFld ["Sent"] "kept_row" (eVar 0))) (eC (.int 0)))))) (sSeq (sAsgFld (eFld ["Sent"] "kept_least" (eVar 0)) (eMin2 (eFld ["Sent"] "kept_least" (eVar 0)) (eVar 3)) (gNameD 5) ["Sent"] "kept_least" (eVar 0)) (sSeq (sIf (tOfB (eCmp (fun _ => cmpI iGe) (eVar 5) (eVar 4))) (sRet (eC .non)) (sNext)) (sRet (eMaxL (lE (eFrz (nLc (iEnumAD (eFld ["Sent"] "kept_levels" (eVar 0))) (gTupD 2 (gsCons (gNameD 6) (gsCons (gNameD 7) (gsNil)))) (tOfB (eCmp (fun _ => cmpI iLt) (eVar 7) (eVar 4))) (eVar 6) [6, 7])))))))))))
noncomputable def m_Sent_take : Fn := fnD 2 8 b_Sent_take
end Pg
open Pg
namespace Pg
/-- breach_of (0 buckets, 1 stream, 2 told, 3 row, 4 beat, 5 lot, 6 line, 7 sent, 8 start) -/
noncomputable def b_breach_of : DS := sSeq (sSet 2 (eFrz (nLc (iSeqD (eFld ["Buckets"] "rows" (eVar 0))) (gNameD 3) (tYesD) (eMake "Sent" m_Sent_init (aCons (eFld ["Buckets"] "bottom" (eVar 0)) (aCons (eVar 3) (aNil)))) [3]))) (sSeq (sFor (iEnumAD (eVar 1)) (gTupD 2 (gsCons (gNameD 4) (gsCons (gNameD 5) (gsNil)))) (sFor (iEnumAD (eVar 2)) (gTupD 2 (gsCons (gNameD 6) (gsCons (gNameD 7) (gsNil)))) (sSeq (sSet 8 (eMeth "Sent" "take" m_Sent_take (eVar 7) (aCons (eIn false (eVar 6) (lE (eVar 5))) (aNil)))) (sIf (tOfB (eCmp1 (fun x => (cmpIsN x).map (!·)) (eVar 8))) (sRet (eTup (aCons (eVar 6) (aCons (eVar 8) (aCons (eVar 4) (aNil)))))) (sNext))))) (sRet (eC .non)))
noncomputable def m_breach_of : Fn := fnD 2 9 b_breach_of
end Pg
open Pg
namespace Pg
/-- is_lot (0 thing, 1 many, 2 last, 3 number) -/
noncomputable def b_is_lot : DS := sSeq (sIf (tNotD (tOfB (eIsTy "tuple" (eVar 0)))) (sRet (eC (.bl false))) (sNext)) (sSeq (sSet 2 (eUn opNeg (eC (.int 1)))) (sSeq (sFor (iSeqD (eVar 0)) (gNameD 3) (sSeq (sIf (tNotD (tOfB (eCall m_is_within (aCons (eVar 3) (aCons (eOp opAdd (eVar 2) (eC (.int 1))) (aCons (eOp (fun _ => opSub) (eVar 1) (eC (.int 1))) (aNil))))))) (sRet (eC (.bl false))) (sNext)) (sSet 2 (eVar 3)))) (sRet (eC (.bl true)))))
noncomputable def m_is_lot : Fn := fnD 2 4 b_is_lot
end Pg
open Pg
namespace Pg
/-- check_stream (0 buckets, 1 stream, 2 lot) -/
noncomputable def b_check_stream : DS := sSeq (sIf (tOrD (tNotD (tOfB (eIsTy "tuple" (eVar 1)))) (tOfB (eCmp (fun _ => cmpI iGt) (eLen (lE (eVar 1))) (eC (.int 6000))))) (sRaise "NoStream") (sNext)) (sIf (tNotD (tOfB (eAll (lE (eFrz (nLc (iSeqD (eVar 1)) (gNameD 2) (tYesD) (eCall m_is_lot (aCons (eVar 2) (aCons (eLen (lE (eFld ["Buckets"] "rows" (eVar 0)))) (aNil)))) [2])))))) (sRaise "NoStream") (sNext))
noncomputable def m_check_stream : Fn := fnD 2 3 b_check_stream
end Pg
open Pg
namespace Pg
/-- breach (0 buckets, 1 stream) -/
noncomputable def b_breach : DS := sSeq (sDrop (eCall m_check_stream (aCons (eVar 0) (aCons (eVar 1) (aNil))))) (sRet (eCall m_breach_of (aCons (eVar 0) (aCons (eVar 1) (aNil)))))
noncomputable def m_breach : Fn := fnD 2 2 b_breach
end Pg
open Pg
namespace L54
/-- _law_long_right (0 _law_hand_here, 1 _law_bottom, 2 _law_rows_here, 3 _law_beats, 4 _law_stream_here, 5 _law_beat, 6 _law_sends, 7 _law_rests) -/
noncomputable def b__law_long_right : DS := sSeq (sSet 1 (eOp opAdd (eC (.int 3)) (eCall m__law_draw (aCons (eVar 0) (aCons (eC (.int 18)) (aNil)))))) (sSeq (sSet 2 (eSlice (lE (eTup (aCons (eTup (aCons (eOp opAdd (eC (.int 2)) (eCall m__law_draw (aCons (eVar 0) (aCons (eC (.int 10)) (aNil))))) (aCons (eCall m__law_draw (aCons (eVar 0) (aCons (eVar 1) (aNil)))) (aCons (eC (.int 0)) (aNil))))) (aCons (eC .non) (aNil))))) oNone (oSome (eOp opAdd (eC (.int 1)) (eCall m__law_draw (aCons (eVar 0) (aCons (eC (.int 2)) (aNil)))))))) (sSeq (sSet 3 (eOp opAdd (eC (.int 200)) (eCall m__law_draw (aCons (eVar 0) (aCons (eC (.int 200)) (aNil)))))) (sSeq (sSetOwn 4 (nLst (aNil))) (sSeq (sFor (iRange1 (eVar 3)) (gNameD 5) (sSeq (sSet 6 (eCmp (fun _ => cmpI iGt) (eCall m__law_sent (aCons (eIx (lE (eVar 2)) (eC (.int 0))) (aCons (eVar 1) (aCons (eOp opAdd (eVar 5) (eC (.int 1))) (aNil))))) (eCall m__law_sent (aCons (eIx (lE (eVar 2)) (eC (.int 0))) (aCons (eVar 1) (aCons (eVar 5) (aNil))))))) (sApp 4 (eIf (tOfB (eVar 6)) (eTup (aCons (eC (.int 0)) (aNil))) (eTup (aNil)))))) (sSeq (sIf (tOfB (eCmp1 (fun x => (cmpIsN x).map (!·)) (eCall m_breach (aCons (eMake "Buckets" m_Buckets_init (aCons (eVar 1) (aCons (eVar 2) (aNil)))) (aCons (eTupOf (lOwn 4)) (aNil)))))) (sRet (eC (.bl false))) (sNext)) (sSeq (sSet 7 (eFrz (nLc (iRange2 (eC (.int 100)) (eVar 3)) (gNameD 5) (tOfB (eCmp cmpEq (eIx (lOwn 4) (eVar 5)) (eTup (aNil)))) (eVar 5) [5]))) (sSeq (sIf (tOfB (eCmp (fun _ => cmpI iGt) (eLen (lE (eVar 7))) (eC (.int 0)))) (sPut 4 (eCall m__law_pick (aCons (eVar 0) (aCons (eVar 7) (aNil)))) (eTup (aCons (eC (.int 0)) (aNil)))) (sNext)) (sRet (eCall m__law_same (aCons (eCall m_breach (aCons (eMake "Buckets" m_Buckets_init (aCons (eVar 1) (aCons (eVar 2) (aNil)))) (aCons (eTupOf (lOwn 4)) (aNil)))) (aCons (eCall m__law_breach (aCons (eVar 2) (aCons (eVar 1) (aCons (eTupOf (lOwn 4)) (aNil))))) (aNil))))))))))))
noncomputable def m__law_long_right : Fn := fnD 1 8 b__law_long_right
end L54
namespace L54
/-- _law_rows (0 _law_hand_here, 1 _law_many, 2 _law_bottom, 3 _law_burst, 4 _law_share, 5 _law_found, 6 _law_left, 7 _law_line, 8 _law_top) -/
noncomputable def b__law_rows : DS := sSeq (sParG [5, 6] [.o (nLst (aNil)), .v (eVar 2)]) (sSeq (sFor (iRange1 (eOp opAdd (eC (.int 1)) (eCall m__law_draw (aCons (eVar 0) (aCons (eVar 1) (aNil)))))) (gNameD 7) (sIf (tOfB (eCmp cmpEq (eCall m__law_draw (aCons (eVar 0) (aCons (eC (.int 5)) (aNil)))) (eC (.int 0)))) (sApp 5 (eC .non)) (sSeq (sSet 8 (eIf (tOfB (eCmp (fun _ => cmpI iGt) (eCall m__law_draw (aCons (eVar 0) (aCons (eVar 4) (aNil)))) (eC (.int 0)))) (eCall m__law_draw (aCons (eVar 0) (aCons (eOp opAdd (eVar 6) (eC (.int 1))) (aNil)))) (eCall m__law_draw (aCons (eVar 0) (aCons (eOp opAdd (eVar 2) (eC (.int 1))) (aNil)))))) (sSeq (sSet 6 (eMax2 (eC (.int 0)) (eOp (fun _ => opSub) (eVar 6) (eVar 8)))) (sApp 5 (eTup (aCons (eOp opAdd (eC (.int 1)) (eCall m__law_draw (aCons (eVar 0) (aCons (eVar 3) (aNil))))) (aCons (eVar 8) (aCons (eCall m__law_draw (aCons (eVar 0) (aCons (eC (.int 3)) (aNil)))) (aNil)))))))))) (sRet (eTupOf (lOwn 5))))
noncomputable def m__law_rows : Fn := fnD 5 9 b__law_rows
end L54
namespace L54
/-- _law_stream (0 _law_hand_here, 1 _law_many, 2 _law_beats, 3 _law_share, 4 _law_found, 5 _law_beat, 6 _law_line) -/
noncomputable def b__law_stream : DS := sSeq (sSet 3 (eCall m__law_pick (aCons (eVar 0) (aCons (eFrz (nLst (aCons (eC (.int 2)) (aCons (eC (.int 2)) (aCons (eC (.int 3)) (aCons (eC (.int 5)) (aCons (eC (.int 1)) (aNil)))))))) (aNil))))) (sSeq (sSetOwn 4 (nLst (aNil))) (sSeq (sFor (iRange1 (eVar 2)) (gNameD 5) (sApp 4 (eTupOf (lE (eFrz (nLc (iRange1 (eVar 1)) (gNameD 6) (tOfB (eCmp cmpEq (eCall m__law_draw (aCons (eVar 0) (aCons (eVar 3) (aNil)))) (eC (.int 0)))) (eVar 6) [6])))))) (sRet (eTupOf (lOwn 4)))))
noncomputable def m__law_stream : Fn := fnD 3 7 b__law_stream
end L54
namespace L54
/-- _law_thinned (0 _law_rows_here, 1 _law_bottom, 2 _law_stream_here, 3 _law_came, 4 _law_row, 5 _law_found, 6 _law_beat, 7 _law_lot, 8 _law_some, 9 _law_line, 10 _law_later, 11 _law_is_let, 12 _law_at, 13 _law_begin) -/
noncomputable def b__law_thinned : DS := sSeq (sSetOwn 3 (nLc (iSeqD (eVar 0)) (gNameD 4) (tYesD) (eFrz (nLst (aNil))) [4])) (sSeq (sSetOwn 5 (nLst (aNil))) (sSeq (sFor (iEnumAD (eVar 2)) (gTupD 2 (gsCons (gNameD 6) (gsCons (gNameD 7) (gsNil)))) (sSeq (sSetOwn 8 (nLst (aNil))) (sSeq (sFor (iSeqD (eVar 7)) (gNameD 9) (sSeq (sSet 10 (eOp opAdd (eIx (lOwn 3) (eVar 9)) (eFrz (nLst (aCons (eVar 6) (aNil)))))) (sSeq (sSet 11 (eC (.bl true))) (sSeq (sFor (iEnumAD (eVar 10)) (gTupD 2 (gsCons (gNameD 12) (gsCons (gNameD 13) (gsNil)))) (sSet 11 (eAnd (eVar 11) (eCmp (fun _ => cmpI iLe) (eOp (fun _ => opSub) (eLen (lE (eVar 10))) (eVar 12)) (eCall m__law_sent (aCons (eIx (lE (eVar 0)) (eVar 9)) (aCons (eVar 1) (aCons (eOp opAdd (eOp (fun _ => opSub) (eVar 6) (eVar 13)) (eC (.int 1))) (aNil))))))))) (sIf (tOfB (eVar 11)) (sSeq (sPut 3 (eVar 9) (eVar 10)) (sApp 8 (eVar 9))) (sNext)))))) (sApp 5 (eTupOf (lOwn 8)))))) (sRet (eTupOf (lOwn 5)))))
noncomputable def m__law_thinned : Fn := fnD 3 14 b__law_thinned
end L54
namespace Pg
/-- check_line (0 buckets, 1 line) -/
noncomputable def b_check_line : DS := sIf (tNotD (tOfB (eCall m_is_within (aCons (eVar 1) (aCons (eC (.int 0)) (aCons (eOp (fun _ => opSub) (eLen (lE (eFld ["Buckets"] "rows" (eVar 0)))) (eC (.int 1))) (aNil))))))) (sRaise "NoLine") (sNext)
noncomputable def m_check_line : Fn := fnD 2 2 b_check_line
end Pg
open Pg
namespace Pg
/-- sent_by (0 bottom, 1 row, 2 beats) -/
noncomputable def b_sent_by : DS := sSeq (sIf (tOfB (eCmp1 cmpIsN (eVar 1))) (sRet (eC (.int 0))) (sNext)) (sRet (eMin2 (eVar 2) (eOp opAdd (eIx (lE (eVar 1)) (eC (.int 0))) (eOp (fun _ => opDiv) (eOp opMul (eIx (lE (eVar 1)) (eC (.int 1))) (eVar 2)) (eVar 0)))))
noncomputable def m_sent_by : Fn := fnD 3 3 b_sent_by
end Pg
open Pg
namespace Pg
/-- most_sent (0 buckets, 1 line, 2 beats) -/
noncomputable def b_most_sent : DS := sSeq (sDrop (eCall m_check_line (aCons (eVar 0) (aCons (eVar 1) (aNil))))) (sSeq (sIf (tNotD (tOfB (eCall m_is_within (aCons (eVar 2) (aCons (eC (.int 0)) (aCons (eC (.int 1000000000)) (aNil))))))) (sRaise "NoNumber") (sNext)) (sRet (eCall m_sent_by (aCons (eFld ["Buckets"] "bottom" (eVar 0)) (aCons (eIx (lE (eFld ["Buckets"] "rows" (eVar 0))) (eVar 1)) (aCons (eVar 2) (aNil)))))))
noncomputable def m_most_sent : Fn := fnD 3 3 b_most_sent
end Pg
open Pg
namespace L54
/-- law (0 _law_script, 1 _law_hand_here, 2 _law_turn, 3 _law_bottom, 4 _law_rows_here, 5 _law_part, 6 _law_buckets, 7 _law_line, 8 _law_beats, 9 _law_stream_here, 10 _law_again, 11 _law_more, 12 _law_change, 13 _law_at) -/
noncomputable def b_law : DS := sSeq (sSet 1 (eCall m__law_hand (aCons (eVar 0) (aNil)))) (sSeq (sIf (tAndD (tOfB (eCmp cmpEq (eCall m__law_draw (aCons (eVar 1) (aCons (eC (.int 8)) (aNil)))) (eC (.int 0)))) (tNotD (tOfB (eCall m__law_long_right (aCons (eVar 1) (aNil)))))) (sRet (eC (.bl false))) (sNext)) (sSeq (sFor (iRange1 (eC (.int 3))) (gNameD 2) (sSeq (sSet 3 (eOp opAdd (eC (.int 1)) (eCall m__law_draw (aCons (eVar 1) (aCons (eC (.int 12)) (aNil)))))) (sSeq (sSet 4 (eCall m__law_rows (aCons (eVar 1) (aCons (eC (.int 5)) (aCons (eVar 3) (aCons (eC (.int 6)) (aCons (eC (.int 4)) (aNil)))))))) (sSeq (sAsg (eCall m__law_told (aCons (eVar 3) (aCons (eVar 4) (aNil)))) (gTupD 2 (gsCons (gNameD 5) (gsCons (gNameD 6) (gsNil))))) (sSeq (sIf (tOrD (tOfB (eCmp1 (fun x => (cmpIsN x).map (!·)) (eVar 5))) (tOrD (tNotD (tOfB (eOwnEq "Buckets" false m_Buckets___eq__ (eVar 6) (eMake "Buckets" m_Buckets_init (aCons (eVar 3) (aCons (eVar 4) (aNil))))))) (tOfB (eOwnEq "Buckets" false m_Buckets___eq__ (eVar 6) (eTup (aCons (eVar 3) (aCons (eVar 4) (aNil)))))))) (sRet (eC (.bl false))) (sNext)) (sSeq (sPar 7 8 (eCall m__law_draw (aCons (eVar 1) (aCons (eLen (lE (eVar 4))) (aNil)))) (eCall m__law_pick (aCons (eVar 1) (aCons (eFrz (nLst (aCons (eC (.int 0)) (aCons (eC (.int 1)) (aCons (eC (.int 2)) (aCons (eCall m__law_draw (aCons (eVar 1) (aCons (eC (.int 80)) (aNil)))) (aCons (eOp (fun _ => opPow) (eC (.int 10)) (eC (.int 9))) (aNil)))))))) (aNil))))) (sSeq (sIf (tNotD (tOfB (eCall m__law_same (aCons (eCall m_most_sent (aCons (eVar 6) (aCons (eVar 7) (aCons (eVar 8) (aNil))))) (aCons (eCall m__law_sent (aCons (eIx (lE (eVar 4)) (eVar 7)) (aCons (eVar 3) (aCons (eVar 8) (aNil))))) (aNil)))))) (sRet (eC (.bl false))) (sNext)) (sSeq (sSet 9 (eCall m__law_thinned (aCons (eVar 4) (aCons (eVar 3) (aCons (eCall m__law_stream (aCons (eVar 1) (aCons (eLen (lE (eVar 4))) (aCons (eCall m__law_draw (aCons (eVar 1) (aCons (eC (.int 31)) (aNil)))) (aNil))))) (aNil)))))) (sSeq (sIf (tOfB (eCmp1 (fun x => (cmpIsN x).map (!·)) (eCall m_breach (aCons (eVar 6) (aCons (eVar 9) (aNil)))))) (sRet (eC (.bl false))) (sNext)) (sFor (iRange1 (eC (.int 3))) (gNameD 10) (sSeq (sSetOwn 11 (nLstOf (lE (eVar 9)))) (sSeq (sFor (iRange1 (eOp opAdd (eC (.int 1)) (eCall m__law_draw (aCons (eVar 1) (aCons (eC (.int 3)) (aNil)))))) (gNameD 12) (sIf (tOfB (eCmp (fun _ => cmpI iGt) (eLen (lOwn 11)) (eC (.int 0)))) (sSeq (sSet 13 (eCall m__law_draw (aCons (eVar 1) (aCons (eLen (lOwn 11)) (aNil))))) (sPut 11 (eVar 13) (eTupOf (lE (eFrz (nSortSetT (lE (eOp opAdd (eIx (lOwn 11) (eVar 13)) (eTup (aCons (eCall m__law_draw (aCons (eVar 1) (aCons (eLen (lE (eVar 4))) (aNil)))) (aNil))))))))))) (sNext))) (sSeq (sIf (tNotD (tOfB (eCall m__law_same (aCons (eCall m_breach (aCons (eVar 6) (aCons (eTupOf (lOwn 11)) (aNil)))) (aCons (eCall m__law_breach (aCons (eVar 4) (aCons (eVar 3) (aCons (eTupOf (lOwn 11)) (aNil))))) (aNil)))))) (sRet (eC (.bl false))) (sNext)) (sIf (tNotD (tOfB (eCall m__law_judged_right (aCons (eVar 1) (aCons (eVar 3) (aCons (eVar 4) (aNil))))))) (sRet (eC (.bl false))) (sNext))))))))))))))) (sRet (eC (.bl true)))))
noncomputable def m_law : Fn := fnD 1 14 b_law
end L54

end
section
set_option Elab.async false
set_option linter.all false
set_option maxRecDepth 100000
set_option maxHeartbeats 4000000
set_option pp.maxSteps 400
namespace L54
open PySem PySem.Spec PyProof.Rows L2 Dn LamX Pg
def top (i : Nat) : Stmt := PySem.Challenge.pw_exactbeats_k54_buckets_judged_and_breach.main.body.getD i (.Pass ⟨0, 0, 0, 0⟩)
def fn0 : He.DefD := ⟨("Buckets", some "__eq__"), "__eq__", "Buckets.__eq__", defArgs (inClass (top 18) 1), defBody (inClass (top 18) 1), defScope (inClass (top 18) 1), [], []⟩
def fn1 : He.DefD := ⟨("is_integer", none), "is_integer", "is_integer", defArgs (top 1), defBody (top 1), defScope (top 1), [], []⟩
def fn2 : He.DefD := ⟨("is_within", none), "is_within", "is_within", defArgs (top 2), defBody (top 2), defScope (top 2), [], []⟩
def fn3 : He.DefD := ⟨("is_row", none), "is_row", "is_row", defArgs (top 17), defBody (top 17), defScope (top 17), [], []⟩
def fn4 : He.DefD := ⟨("Buckets", some "__init__"), "__init__", "Buckets.__init__", defArgs (inClass (top 18) 0), defBody (inClass (top 18) 0), defScope (inClass (top 18) 0), [], []⟩
def fn5 : He.DefD := ⟨("_law_sent", none), "_law_sent", "_law_sent", defArgs (top 32), defBody (top 32), defScope (top 32), [], []⟩
def fn6 : He.DefD := ⟨("_law_breach", none), "_law_breach", "_law_breach", defArgs (top 37), defBody (top 37), defScope (top 37), [], []⟩
def fn7 : He.DefD := ⟨("_law_draw", none), "_law_draw", "_law_draw", defArgs (top 28), defBody (top 28), defScope (top 28), [], []⟩
def fn8 : He.DefD := ⟨("_law_hand", none), "_law_hand", "_law_hand", defArgs (top 27), defBody (top 27), defScope (top 27), [], []⟩
def fn9 : He.DefD := ⟨("_law_deep", none), "_law_deep", "_law_deep", defArgs (top 34), defBody (top 34), defScope (top 34), [], []⟩
def fn10 : He.DefD := ⟨("_law_is_int", none), "_law_is_int", "_law_is_int", defArgs (top 33), defBody (top 33), defScope (top 33), [], []⟩
def fn11 : He.DefD := ⟨("_law_is_row", none), "_law_is_row", "_law_is_row", defArgs (top 38), defBody (top 38), defScope (top 38), [], []⟩
def fn12 : He.DefD := ⟨("_law_due", none), "_law_due", "_law_due", defArgs (top 39), defBody (top 39), defScope (top 39), [], []⟩
def fn13 : He.DefD := ⟨("_law_pick", none), "_law_pick", "_law_pick", defArgs (top 29), defBody (top 29), defScope (top 29), [], []⟩
def fn14 : He.DefD := ⟨("_law_odd_rows", none), "_law_odd_rows", "_law_odd_rows", defArgs (top 41), defBody (top 41), defScope (top 41), [], []⟩
def fn15 : He.DefD := ⟨("_law_same", none), "_law_same", "_law_same", defArgs (top 30), defBody (top 30), defScope (top 30), [], []⟩
def fn16 : He.DefD := ⟨("_law_told", none), "_law_told", "_law_told", defArgs (top 40), defBody (top 40), defScope (top 40), [], []⟩
def fn17 : He.DefD := ⟨("_law_judged_right", none), "_law_judged_right", "_law_judged_right", defArgs (top 42), defBody (top 42), defScope (top 42), [], []⟩
def fn18 : He.DefD := ⟨("Sent", some "__init__"), "__init__", "Sent.__init__", defArgs (inClass (top 23) 0), defBody (inClass (top 23) 0), defScope (inClass (top 23) 0), [], []⟩
def fn19 : He.DefD := ⟨("Sent", some "take"), "take", "Sent.take", defArgs (inClass (top 23) 1), defBody (inClass (top 23) 1), defScope (inClass (top 23) 1), [], []⟩
def fn20 : He.DefD := ⟨("breach_of", none), "breach_of", "breach_of", defArgs (top 24), defBody (top 24), defScope (top 24), [], []⟩
def fn21 : He.DefD := ⟨("is_lot", none), "is_lot", "is_lot", defArgs (top 3), defBody (top 3), defScope (top 3), [], []⟩
def fn22 : He.DefD := ⟨("check_stream", none), "check_stream", "check_stream", defArgs (top 22), defBody (top 22), defScope (top 22), [], []⟩
def fn23 : He.DefD := ⟨("breach", none), "breach", "breach", defArgs (top 25), defBody (top 25), defScope (top 25), [], []⟩
def fn24 : He.DefD := ⟨("_law_long_right", none), "_law_long_right", "_law_long_right", defArgs (top 43), defBody (top 43), defScope (top 43), [], []⟩
def fn25 : He.DefD := ⟨("_law_rows", none), "_law_rows", "_law_rows", defArgs (top 31), defBody (top 31), defScope (top 31), [], []⟩
def fn26 : He.DefD := ⟨("_law_stream", none), "_law_stream", "_law_stream", defArgs (top 35), defBody (top 35), defScope (top 35), [], []⟩
def fn27 : He.DefD := ⟨("_law_thinned", none), "_law_thinned", "_law_thinned", defArgs (top 36), defBody (top 36), defScope (top 36), [], []⟩
def fn28 : He.DefD := ⟨("check_line", none), "check_line", "check_line", defArgs (top 19), defBody (top 19), defScope (top 19), [], []⟩
def fn29 : He.DefD := ⟨("sent_by", none), "sent_by", "sent_by", defArgs (top 20), defBody (top 20), defScope (top 20), [], []⟩
def fn30 : He.DefD := ⟨("most_sent", none), "most_sent", "most_sent", defArgs (top 21), defBody (top 21), defScope (top 21), [], []⟩
def fn31 : He.DefD := ⟨("law", none), "law", "law", defArgs (top 44), defBody (top 44), defScope (top 44), [], []⟩
def fn32 : He.DefD := ⟨("BadBuckets", some "__init__"), "__init__", "BadBuckets.__init__", defArgs (inClass (top 8) 0), defBody (inClass (top 8) 0), defScope (inClass (top 8) 0), [], []⟩
def fn : List He.DefD := [fn0, fn1, fn2, fn3, fn4, fn5, fn6, fn7, fn8, fn9, fn10, fn11, fn12, fn13, fn14, fn15, fn16, fn17, fn18, fn19, fn20, fn21, fn22, fn23, fn24, fn25, fn26, fn27, fn28, fn29] ++ [fn30, fn31, fn32]
def fa : List He.Fa := ([.glo "BadBuckets", .glo "Buckets", .glo "NoLine", .glo "NoNumber", .glo "NoStream", .glo "Sent", .glo "_law_breach", .glo "_law_deep", .glo "_law_draw", .glo "_law_due", .glo "_law_hand", .glo "_law_is_int", .glo "_law_is_row", .glo "_law_judged_right", .glo "_law_long_right", .glo "_law_odd_rows", .glo "_law_pick", .glo "_law_rows", .glo "_law_same", .glo "_law_sent", .glo "_law_stream", .glo "_law_thinned", .glo "_law_told", .glo "breach", .glo "breach_of", .glo "check_line", .glo "check_stream", .glo "is_integer", .glo "is_lot", .glo "is_row"] : List He.Fa) ++ ([.glo "is_within", .glo "most_sent", .glo "sent_by", .free "abs", .free "all", .free "bool", .free "enumerate", .free "int", .free "isinstance", .free "len", .free "list", .free "max", .free "min", .free "range", .free "set", .free "sorted", .free "tuple", .free "zip", .int "KINDS" 8, .int "MOST_ASKED" 1000000000, .int "MOST_BEATS" 6000, .int "MOST_BOTTOM" 20, .int "MOST_BURST" 20, .int "MOST_ROWS" 12, .cls "Buckets", .cls "Sent", .noat "Buckets" "bottom", .noat "Buckets" "rows", .noat "Sent" "kept_bottom", .noat "Sent" "kept_least"] : List He.Fa) ++ ([.noat "Sent" "kept_levels", .noat "Sent" "kept_row", .meth "Sent" "take", .mkr "Buckets", .mkr "Sent", .exc "NoLine", .exc "NoNumber", .exc "NoStream", .exm "BadBuckets" "BadBuckets" true, .exm "NoLine" "BadBuckets" false, .exm "NoNumber" "BadBuckets" false, .exm "NoStream" "BadBuckets" false, .glo "law"] : List He.Fa)
def fx : List Fx := [.xf "BadBuckets" "part", .ins "Buckets", .oex "BadBuckets" ["part"], .own "Buckets", .oeq "Buckets"]
def tl : List (He.Defn × Str) := []
/-- what is known of the text behind the top -/
structure Fc (K : PySem.W.Frag) (mg : Str → Option Value) : Prop where
  g_BadBuckets : mg "BadBuckets" = some (.ref (He.ga K "BadBuckets"))
  g_Buckets : mg "Buckets" = some (.ref (He.ga K "Buckets"))
  g_NoLine : mg "NoLine" = some (.ref (He.ga K "NoLine"))
  g_NoNumber : mg "NoNumber" = some (.ref (He.ga K "NoNumber"))
  g_NoStream : mg "NoStream" = some (.ref (He.ga K "NoStream"))
  g_Sent : mg "Sent" = some (.ref (He.ga K "Sent"))
  g__law_breach : mg "_law_breach" = some (.ref (He.ga K "_law_breach"))
  g__law_deep : mg "_law_deep" = some (.ref (He.ga K "_law_deep"))
  g__law_draw : mg "_law_draw" = some (.ref (He.ga K "_law_draw"))
  g__law_due : mg "_law_due" = some (.ref (He.ga K "_law_due"))
  g__law_hand : mg "_law_hand" = some (.ref (He.ga K "_law_hand"))
  g__law_is_int : mg "_law_is_int" = some (.ref (He.ga K "_law_is_int"))
  g__law_is_row : mg "_law_is_row" = some (.ref (He.ga K "_law_is_row"))
  g__law_judged_right : mg "_law_judged_right" = some (.ref (He.ga K "_law_judged_right"))
  g__law_long_right : mg "_law_long_right" = some (.ref (He.ga K "_law_long_right"))
  g__law_odd_rows : mg "_law_odd_rows" = some (.ref (He.ga K "_law_odd_rows"))
  g__law_pick : mg "_law_pick" = some (.ref (He.ga K "_law_pick"))
  g__law_rows : mg "_law_rows" = some (.ref (He.ga K "_law_rows"))
  g__law_same : mg "_law_same" = some (.ref (He.ga K "_law_same"))
  g__law_sent : mg "_law_sent" = some (.ref (He.ga K "_law_sent"))
  g__law_stream : mg "_law_stream" = some (.ref (He.ga K "_law_stream"))
  g__law_thinned : mg "_law_thinned" = some (.ref (He.ga K "_law_thinned"))
  g__law_told : mg "_law_told" = some (.ref (He.ga K "_law_told"))
  g_breach : mg "breach" = some (.ref (He.ga K "breach"))
  g_breach_of : mg "breach_of" = some (.ref (He.ga K "breach_of"))
  g_check_line : mg "check_line" = some (.ref (He.ga K "check_line"))
  g_check_stream : mg "check_stream" = some (.ref (He.ga K "check_stream"))
  g_is_integer : mg "is_integer" = some (.ref (He.ga K "is_integer"))
  g_is_lot : mg "is_lot" = some (.ref (He.ga K "is_lot"))
  g_is_row : mg "is_row" = some (.ref (He.ga K "is_row"))
  g_is_within : mg "is_within" = some (.ref (He.ga K "is_within"))
  g_most_sent : mg "most_sent" = some (.ref (He.ga K "most_sent"))
  g_sent_by : mg "sent_by" = some (.ref (He.ga K "sent_by"))
  b_abs : mg "abs" = none
  b_all : mg "all" = none
  b_bool : mg "bool" = none
  b_enumerate : mg "enumerate" = none
  b_int : mg "int" = none
  b_isinstance : mg "isinstance" = none
  b_len : mg "len" = none
  b_list : mg "list" = none
  b_max : mg "max" = none
  b_min : mg "min" = none
  b_range : mg "range" = none
  b_set : mg "set" = none
  b_sorted : mg "sorted" = none
  b_tuple : mg "tuple" = none
  b_zip : mg "zip" = none
  j_KINDS : ∃ t, mg "KINDS" = some (.int 8 t)
  j_MOST_ASKED : ∃ t, mg "MOST_ASKED" = some (.int 1000000000 t)
  j_MOST_BEATS : ∃ t, mg "MOST_BEATS" = some (.int 6000 t)
  j_MOST_BOTTOM : ∃ t, mg "MOST_BOTTOM" = some (.int 20 t)
  j_MOST_BURST : ∃ t, mg "MOST_BURST" = some (.int 20 t)
  j_MOST_ROWS : ∃ t, mg "MOST_ROWS" = some (.int 12 t)
  c_Buckets : Cls K (He.ga K "Buckets")
  c_Sent : Cls K (He.ga K "Sent")
  n_Buckets_bottom : NoAttr K (He.ga K "Buckets") "bottom"
  n_Buckets_rows : NoAttr K (He.ga K "Buckets") "rows"
  n_Sent_kept_bottom : NoAttr K (He.ga K "Sent") "kept_bottom"
  n_Sent_kept_least : NoAttr K (He.ga K "Sent") "kept_least"
  n_Sent_kept_levels : NoAttr K (He.ga K "Sent") "kept_levels"
  n_Sent_kept_row : NoAttr K (He.ga K "Sent") "kept_row"
  m_Sent_take : Meth K (He.ga K "Sent") "take" (He.ma K (He.ga K "Sent") "take")
  k_Buckets : Mk K (He.ga K "Buckets") (He.ma K (He.ga K "Buckets") "__init__")
  k_Sent : Mk K (He.ga K "Sent") (He.ma K (He.ga K "Sent") "__init__")
  x_NoLine : Exc0 K (He.ga K "NoLine")
  x_NoNumber : Exc0 K (He.ga K "NoNumber")
  x_NoStream : Exc0 K (He.ga K "NoStream")
  e_BadBuckets_BadBuckets : PySem.W.exmOne K (.ref (He.ga K "BadBuckets")) (.ref (He.ga K "BadBuckets")) = some true
  e_NoLine_BadBuckets : PySem.W.exmOne K (.ref (He.ga K "NoLine")) (.ref (He.ga K "BadBuckets")) = some false
  e_NoNumber_BadBuckets : PySem.W.exmOne K (.ref (He.ga K "NoNumber")) (.ref (He.ga K "BadBuckets")) = some false
  e_NoStream_BadBuckets : PySem.W.exmOne K (.ref (He.ga K "NoStream")) (.ref (He.ga K "BadBuckets")) = some false
  xf_BadBuckets_part : L2.XfC K (He.ga K "BadBuckets") ∧ PySem.W.findIn K (.ref (He.ga K "BadBuckets")) "part" = some none
  ic_Buckets : InsK K (He.ga K "Buckets")
  ox_BadBuckets : OexF K (He.ga K "BadBuckets") (He.ma K (He.ga K "BadBuckets") "__init__") ["part"]
  ow_Buckets : OwnK K (He.ga K "Buckets")
  oq_Buckets : OeqK K (He.ga K "Buckets") (He.ma K (He.ga K "Buckets") "__eq__")
  f_Buckets___eq__ : ∃ fd, FunD K "__eq__" "Buckets.__eq__" (defArgs (inClass (top 18) 1)) (defBody (inClass (top 18) 1)) (defScope (inClass (top 18) 1)) [] [] (He.fAd K ("Buckets", some "__eq__")) fd
  f_is_integer : ∃ fd, FunD K "is_integer" "is_integer" (defArgs (top 1)) (defBody (top 1)) (defScope (top 1)) [] [] (He.fAd K ("is_integer", none)) fd
  f_is_within : ∃ fd, FunD K "is_within" "is_within" (defArgs (top 2)) (defBody (top 2)) (defScope (top 2)) [] [] (He.fAd K ("is_within", none)) fd
  f_is_row : ∃ fd, FunD K "is_row" "is_row" (defArgs (top 17)) (defBody (top 17)) (defScope (top 17)) [] [] (He.fAd K ("is_row", none)) fd
  f_Buckets_init : ∃ fd, FunD K "__init__" "Buckets.__init__" (defArgs (inClass (top 18) 0)) (defBody (inClass (top 18) 0)) (defScope (inClass (top 18) 0)) [] [] (He.fAd K ("Buckets", some "__init__")) fd
  f__law_sent : ∃ fd, FunD K "_law_sent" "_law_sent" (defArgs (top 32)) (defBody (top 32)) (defScope (top 32)) [] [] (He.fAd K ("_law_sent", none)) fd
  f__law_breach : ∃ fd, FunD K "_law_breach" "_law_breach" (defArgs (top 37)) (defBody (top 37)) (defScope (top 37)) [] [] (He.fAd K ("_law_breach", none)) fd
  f__law_draw : ∃ fd, FunD K "_law_draw" "_law_draw" (defArgs (top 28)) (defBody (top 28)) (defScope (top 28)) [] [] (He.fAd K ("_law_draw", none)) fd
  f__law_hand : ∃ fd, FunD K "_law_hand" "_law_hand" (defArgs (top 27)) (defBody (top 27)) (defScope (top 27)) [] [] (He.fAd K ("_law_hand", none)) fd
  f__law_deep : ∃ fd, FunD K "_law_deep" "_law_deep" (defArgs (top 34)) (defBody (top 34)) (defScope (top 34)) [] [] (He.fAd K ("_law_deep", none)) fd
  f__law_is_int : ∃ fd, FunD K "_law_is_int" "_law_is_int" (defArgs (top 33)) (defBody (top 33)) (defScope (top 33)) [] [] (He.fAd K ("_law_is_int", none)) fd
  f__law_is_row : ∃ fd, FunD K "_law_is_row" "_law_is_row" (defArgs (top 38)) (defBody (top 38)) (defScope (top 38)) [] [] (He.fAd K ("_law_is_row", none)) fd
  f__law_due : ∃ fd, FunD K "_law_due" "_law_due" (defArgs (top 39)) (defBody (top 39)) (defScope (top 39)) [] [] (He.fAd K ("_law_due", none)) fd
  f__law_pick : ∃ fd, FunD K "_law_pick" "_law_pick" (defArgs (top 29)) (defBody (top 29)) (defScope (top 29)) [] [] (He.fAd K ("_law_pick", none)) fd
  f__law_odd_rows : ∃ fd, FunD K "_law_odd_rows" "_law_odd_rows" (defArgs (top 41)) (defBody (top 41)) (defScope (top 41)) [] [] (He.fAd K ("_law_odd_rows", none)) fd
  f__law_same : ∃ fd, FunD K "_law_same" "_law_same" (defArgs (top 30)) (defBody (top 30)) (defScope (top 30)) [] [] (He.fAd K ("_law_same", none)) fd
  f__law_told : ∃ fd, FunD K "_law_told" "_law_told" (defArgs (top 40)) (defBody (top 40)) (defScope (top 40)) [] [] (He.fAd K ("_law_told", none)) fd
  f__law_judged_right : ∃ fd, FunD K "_law_judged_right" "_law_judged_right" (defArgs (top 42)) (defBody (top 42)) (defScope (top 42)) [] [] (He.fAd K ("_law_judged_right", none)) fd
  f_Sent_init : ∃ fd, FunD K "__init__" "Sent.__init__" (defArgs (inClass (top 23) 0)) (defBody (inClass (top 23) 0)) (defScope (inClass (top 23) 0)) [] [] (He.fAd K ("Sent", some "__init__")) fd
  f_Sent_take : ∃ fd, FunD K "take" "Sent.take" (defArgs (inClass (top 23) 1)) (defBody (inClass (top 23) 1)) (defScope (inClass (top 23) 1)) [] [] (He.fAd K ("Sent", some "take")) fd
  f_breach_of : ∃ fd, FunD K "breach_of" "breach_of" (defArgs (top 24)) (defBody (top 24)) (defScope (top 24)) [] [] (He.fAd K ("breach_of", none)) fd
  f_is_lot : ∃ fd, FunD K "is_lot" "is_lot" (defArgs (top 3)) (defBody (top 3)) (defScope (top 3)) [] [] (He.fAd K ("is_lot", none)) fd
  f_check_stream : ∃ fd, FunD K "check_stream" "check_stream" (defArgs (top 22)) (defBody (top 22)) (defScope (top 22)) [] [] (He.fAd K ("check_stream", none)) fd
  f_breach : ∃ fd, FunD K "breach" "breach" (defArgs (top 25)) (defBody (top 25)) (defScope (top 25)) [] [] (He.fAd K ("breach", none)) fd
  f__law_long_right : ∃ fd, FunD K "_law_long_right" "_law_long_right" (defArgs (top 43)) (defBody (top 43)) (defScope (top 43)) [] [] (He.fAd K ("_law_long_right", none)) fd
  f__law_rows : ∃ fd, FunD K "_law_rows" "_law_rows" (defArgs (top 31)) (defBody (top 31)) (defScope (top 31)) [] [] (He.fAd K ("_law_rows", none)) fd
  f__law_stream : ∃ fd, FunD K "_law_stream" "_law_stream" (defArgs (top 35)) (defBody (top 35)) (defScope (top 35)) [] [] (He.fAd K ("_law_stream", none)) fd
  f__law_thinned : ∃ fd, FunD K "_law_thinned" "_law_thinned" (defArgs (top 36)) (defBody (top 36)) (defScope (top 36)) [] [] (He.fAd K ("_law_thinned", none)) fd
  f_check_line : ∃ fd, FunD K "check_line" "check_line" (defArgs (top 19)) (defBody (top 19)) (defScope (top 19)) [] [] (He.fAd K ("check_line", none)) fd
  f_sent_by : ∃ fd, FunD K "sent_by" "sent_by" (defArgs (top 20)) (defBody (top 20)) (defScope (top 20)) [] [] (He.fAd K ("sent_by", none)) fd
  f_most_sent : ∃ fd, FunD K "most_sent" "most_sent" (defArgs (top 21)) (defBody (top 21)) (defScope (top 21)) [] [] (He.fAd K ("most_sent", none)) fd
  f_law : ∃ fd, FunD K "law" "law" (defArgs (top 44)) (defBody (top 44)) (defScope (top 44)) [] [] (He.fAd K ("law", none)) fd
  f_BadBuckets_init : ∃ fd, FunD K "__init__" "BadBuckets.__init__" (defArgs (inClass (top 8) 0)) (defBody (inClass (top 8) 0)) (defScope (inClass (top 8) 0)) [] [] (He.fAd K ("BadBuckets", some "__init__")) fd
theorem fc_of {K : PySem.W.Frag} {h : Heap} {mg : Str → Option Value} (X : K.In h) (G : h.Ns mainGlobals mg) (c : SaysT fx fa fn (tl.map (·.1)) K) : Fc K mg :=
  ⟨He.glo_ok X G (c.fact 0 (f := .glo "BadBuckets") rfl),
   He.glo_ok X G (c.fact 1 (f := .glo "Buckets") rfl),
   He.glo_ok X G (c.fact 2 (f := .glo "NoLine") rfl),
   He.glo_ok X G (c.fact 3 (f := .glo "NoNumber") rfl),
   He.glo_ok X G (c.fact 4 (f := .glo "NoStream") rfl),
   He.glo_ok X G (c.fact 5 (f := .glo "Sent") rfl),
   He.glo_ok X G (c.fact 6 (f := .glo "_law_breach") rfl),
   He.glo_ok X G (c.fact 7 (f := .glo "_law_deep") rfl),
   He.glo_ok X G (c.fact 8 (f := .glo "_law_draw") rfl),
   He.glo_ok X G (c.fact 9 (f := .glo "_law_due") rfl),
   He.glo_ok X G (c.fact 10 (f := .glo "_law_hand") rfl),
   He.glo_ok X G (c.fact 11 (f := .glo "_law_is_int") rfl),
   He.glo_ok X G (c.fact 12 (f := .glo "_law_is_row") rfl),
   He.glo_ok X G (c.fact 13 (f := .glo "_law_judged_right") rfl),
   He.glo_ok X G (c.fact 14 (f := .glo "_law_long_right") rfl),
   He.glo_ok X G (c.fact 15 (f := .glo "_law_odd_rows") rfl),
   He.glo_ok X G (c.fact 16 (f := .glo "_law_pick") rfl),
   He.glo_ok X G (c.fact 17 (f := .glo "_law_rows") rfl),
   He.glo_ok X G (c.fact 18 (f := .glo "_law_same") rfl),
   He.glo_ok X G (c.fact 19 (f := .glo "_law_sent") rfl),
   He.glo_ok X G (c.fact 20 (f := .glo "_law_stream") rfl),
   He.glo_ok X G (c.fact 21 (f := .glo "_law_thinned") rfl),
   He.glo_ok X G (c.fact 22 (f := .glo "_law_told") rfl),
   He.glo_ok X G (c.fact 23 (f := .glo "breach") rfl),
   He.glo_ok X G (c.fact 24 (f := .glo "breach_of") rfl),
   He.glo_ok X G (c.fact 25 (f := .glo "check_line") rfl),
   He.glo_ok X G (c.fact 26 (f := .glo "check_stream") rfl),
   He.glo_ok X G (c.fact 27 (f := .glo "is_integer") rfl),
   He.glo_ok X G (c.fact 28 (f := .glo "is_lot") rfl),
   He.glo_ok X G (c.fact 29 (f := .glo "is_row") rfl),
   He.glo_ok X G (c.fact 30 (f := .glo "is_within") rfl),
   He.glo_ok X G (c.fact 31 (f := .glo "most_sent") rfl),
   He.glo_ok X G (c.fact 32 (f := .glo "sent_by") rfl),
   He.free_ok X G (c.fact 33 (f := .free "abs") rfl),
   He.free_ok X G (c.fact 34 (f := .free "all") rfl),
   He.free_ok X G (c.fact 35 (f := .free "bool") rfl),
   He.free_ok X G (c.fact 36 (f := .free "enumerate") rfl),
   He.free_ok X G (c.fact 37 (f := .free "int") rfl),
   He.free_ok X G (c.fact 38 (f := .free "isinstance") rfl),
   He.free_ok X G (c.fact 39 (f := .free "len") rfl),
   He.free_ok X G (c.fact 40 (f := .free "list") rfl),
   He.free_ok X G (c.fact 41 (f := .free "max") rfl),
   He.free_ok X G (c.fact 42 (f := .free "min") rfl),
   He.free_ok X G (c.fact 43 (f := .free "range") rfl),
   He.free_ok X G (c.fact 44 (f := .free "set") rfl),
   He.free_ok X G (c.fact 45 (f := .free "sorted") rfl),
   He.free_ok X G (c.fact 46 (f := .free "tuple") rfl),
   He.free_ok X G (c.fact 47 (f := .free "zip") rfl),
   He.int_ok X G (c.fact 48 (f := .int "KINDS" 8) rfl),
   He.int_ok X G (c.fact 49 (f := .int "MOST_ASKED" 1000000000) rfl),
   He.int_ok X G (c.fact 50 (f := .int "MOST_BEATS" 6000) rfl),
   He.int_ok X G (c.fact 51 (f := .int "MOST_BOTTOM" 20) rfl),
   He.int_ok X G (c.fact 52 (f := .int "MOST_BURST" 20) rfl),
   He.int_ok X G (c.fact 53 (f := .int "MOST_ROWS" 12) rfl),
   He.cls_ok (c.fact 54 (f := .cls "Buckets") rfl),
   He.cls_ok (c.fact 55 (f := .cls "Sent") rfl),
   He.noat_ok (c.fact 56 (f := .noat "Buckets" "bottom") rfl),
   He.noat_ok (c.fact 57 (f := .noat "Buckets" "rows") rfl),
   He.noat_ok (c.fact 58 (f := .noat "Sent" "kept_bottom") rfl),
   He.noat_ok (c.fact 59 (f := .noat "Sent" "kept_least") rfl),
   He.noat_ok (c.fact 60 (f := .noat "Sent" "kept_levels") rfl),
   He.noat_ok (c.fact 61 (f := .noat "Sent" "kept_row") rfl),
   He.meth_ok (c.fact 62 (f := .meth "Sent" "take") rfl),
   He.mkr_ok (c.fact 63 (f := .mkr "Buckets") rfl),
   He.mkr_ok (c.fact 64 (f := .mkr "Sent") rfl),
   exc0_of (He.exc_ok (c.fact 65 (f := .exc "NoLine") rfl)),
   exc0_of (He.exc_ok (c.fact 66 (f := .exc "NoNumber") rfl)),
   exc0_of (He.exc_ok (c.fact 67 (f := .exc "NoStream") rfl)),
   He.exm_ok (c.fact 68 (f := .exm "BadBuckets" "BadBuckets" true) rfl),
   He.exm_ok (c.fact 69 (f := .exm "NoLine" "BadBuckets" false) rfl),
   He.exm_ok (c.fact 70 (f := .exm "NoNumber" "BadBuckets" false) rfl),
   He.exm_ok (c.fact 71 (f := .exm "NoStream" "BadBuckets" false) rfl),
   xf_ok (c.more 0 (f := .xf "BadBuckets" "part") rfl),
   ins_ok (c.more 1 (f := .ins "Buckets") rfl),
   oex_ok (c.more 2 (f := .oex "BadBuckets" ["part"]) rfl),
   own_ok (c.more 3 (f := .own "Buckets") rfl),
   oeq_ok (c.more 4 (f := .oeq "Buckets") rfl),
   c.def_ 0 (d := fn0) rfl,
   c.def_ 1 (d := fn1) rfl,
   c.def_ 2 (d := fn2) rfl,
   c.def_ 3 (d := fn3) rfl,
   c.def_ 4 (d := fn4) rfl,
   c.def_ 5 (d := fn5) rfl,
   c.def_ 6 (d := fn6) rfl,
   c.def_ 7 (d := fn7) rfl,
   c.def_ 8 (d := fn8) rfl,
   c.def_ 9 (d := fn9) rfl,
   c.def_ 10 (d := fn10) rfl,
   c.def_ 11 (d := fn11) rfl,
   c.def_ 12 (d := fn12) rfl,
   c.def_ 13 (d := fn13) rfl,
   c.def_ 14 (d := fn14) rfl,
   c.def_ 15 (d := fn15) rfl,
   c.def_ 16 (d := fn16) rfl,
   c.def_ 17 (d := fn17) rfl,
   c.def_ 18 (d := fn18) rfl,
   c.def_ 19 (d := fn19) rfl,
   c.def_ 20 (d := fn20) rfl,
   c.def_ 21 (d := fn21) rfl,
   c.def_ 22 (d := fn22) rfl,
   c.def_ 23 (d := fn23) rfl,
   c.def_ 24 (d := fn24) rfl,
   c.def_ 25 (d := fn25) rfl,
   c.def_ 26 (d := fn26) rfl,
   c.def_ 27 (d := fn27) rfl,
   c.def_ 28 (d := fn28) rfl,
   c.def_ 29 (d := fn29) rfl,
   c.def_ 30 (d := fn30) rfl,
   c.def_ 31 (d := fn31) rfl,
   c.def_ 32 (d := fn32) rfl⟩
section
variable [Tb] {P : Program} {w : World} {K : PySem.W.Frag} {mg : Str → Option Value} {base : Heap}
theorem sc_BadBuckets_init : FnScope ["self", "part"] (["self", "part"] : List Str) (defScope (inClass (top 8) 0)) := ⟨rfl, rfl, rfl, by decide +kernel, rfl, by decide +kernel, by decide +kernel⟩
theorem ini_BadBuckets (fc : Fc K mg) : ∃ fd, FunD K "__init__" "BadBuckets.__init__" (defArgs (inClass (top 8) 0)) (defBody (inClass (top 8) 0)) (defScope (inClass (top 8) 0)) [] [] (He.fAd K ("BadBuckets", some "__init__")) fd ∧ FnOk P w K mg base (L2.CX P w) 1 (He.fAd K ("BadBuckets", some "__init__")) fd ["self", "part"] (spI K 1 [("part", 1)]) ∧ Binds K fd ["self", "part"] [] := by
  obtain ⟨fd, F⟩ := fc.f_BadBuckets_init
  exact ⟨fd, F, fn_exi (k := 0) F sc_BadBuckets_init rfl (fun cdv A outer s H E => (ini_cons (ps_ost (pv 0) (pv 1)) ini_nil)), F.bindsN fun _ _ _ _ _ _ us hl => match us, hl with | [_, _], _ => rfl⟩
theorem sc_Buckets___eq__ : FnScope ["self", "other"] (["self", "other"] : List Str) (defScope (inClass (top 18) 1)) := ⟨rfl, rfl, rfl, by decide +kernel, rfl, by decide +kernel, by decide +kernel⟩
theorem ok_Buckets___eq__ (fc : Fc K mg) (tx : Tx tl K mg base) : ∃ fd, FunD K "__eq__" "Buckets.__eq__" (defArgs (inClass (top 18) 1)) (defBody (inClass (top 18) 1)) (defScope (inClass (top 18) 1)) [] [] (He.fAd K ("Buckets", some "__eq__")) fd ∧ FnG P w K mg base (L2.CX P w) 1 (He.fAd K ("Buckets", some "__eq__")) fd (["self", "other"] : List Str) (spD (gk K mg) m_Buckets___eq__) ∧ Binds K fd (["self", "other"] : List Str) [] := by
  obtain ⟨fd, F⟩ := fc.f_Buckets___eq__
  have nd : (["self", "other"] : List Str).Nodup := sc_Buckets___eq__.nd
  refine ⟨fd, F, fn_okX (k := 0) F sc_Buckets___eq__ rfl rfl (fun cdv A outer s H E M0 hr tk po => ?_), F.bindsN fun _ _ _ _ _ _ us hl => match us, hl with | [_, _], _ => rfl⟩
  exact (ss_one (ss_ret (se_and (se_isOwn fc.g_Buckets fc.c_Buckets fc.ic_Buckets fc.ow_Buckets (fun _ h => by cases h) (pe_callB call_isi rfl fc.b_isinstance boot_isinstance (pa_cons (sv 1) (pa_cons (pe_glob (v := .ref (He.ga _ "Buckets")) rfl fc.g_Buckets rfl) pa_nil)))) (se_one (se_cmp (op_eqD (hu64 hr)) opb_eq (se_tup (sa_cons (se_fld (cs := ["Buckets"]) (by intro c hc; simp only [List.mem_cons, List.not_mem_nil, or_false] at hc; subst hc; exact fld_of fc.g_Buckets fc.c_Buckets fc.n_Buckets_bottom) (sv 0) rfl) (sa_cons (se_fld (cs := ["Buckets"]) (by intro c hc; simp only [List.mem_cons, List.not_mem_nil, or_false] at hc; subst hc; exact fld_of fc.g_Buckets fc.c_Buckets fc.n_Buckets_rows) (sv 0) rfl) sa_nil))) (se_tup (sa_cons (se_fld (cs := ["Buckets"]) (by intro c hc; simp only [List.mem_cons, List.not_mem_nil, or_false] at hc; subst hc; exact fld_of fc.g_Buckets fc.c_Buckets fc.n_Buckets_bottom) (sv 1) rfl) (sa_cons (se_fld (cs := ["Buckets"]) (by intro c hc; simp only [List.mem_cons, List.not_mem_nil, or_false] at hc; subst hc; exact fld_of fc.g_Buckets fc.c_Buckets fc.n_Buckets_rows) (sv 1) rfl) sa_nil))) (nomark _))))))
theorem sc_is_integer : FnScope ["thing"] (["thing"] : List Str) (defScope (top 1)) := ⟨rfl, rfl, rfl, by decide +kernel, rfl, by decide +kernel, by decide +kernel⟩
theorem ok_is_integer (fc : Fc K mg) (tx : Tx tl K mg base) : ∃ fd, FunD K "is_integer" "is_integer" (defArgs (top 1)) (defBody (top 1)) (defScope (top 1)) [] [] (He.fAd K ("is_integer", none)) fd ∧ FnG P w K mg base (L2.CX P w) 1 (He.fAd K ("is_integer", none)) fd (["thing"] : List Str) (spD (gk K mg) m_is_integer) ∧ Binds K fd (["thing"] : List Str) [] := by
  obtain ⟨fd, F⟩ := fc.f_is_integer
  have nd : (["thing"] : List Str).Nodup := sc_is_integer.nd
  refine ⟨fd, F, fn_okX (k := 0) F sc_is_integer rfl rfl (fun cdv A outer s H E M0 hr tk po => ?_), F.bindsN fun _ _ _ _ _ _ us hl => match us, hl with | [_], _ => rfl⟩
  exact (ss_one (ss_ret (se_and (se_isTy (n := "int") (by decide) (pe_callB call_isi rfl fc.b_isinstance boot_isinstance (pa_cons (sv 0) (pa_cons (pe_bltn (v := .ty "int") rfl fc.b_int boot_int rfl) pa_nil)))) (se_one (se_not (se_isTy (n := "bool") (by decide) (pe_callB call_isi rfl fc.b_isinstance boot_isinstance (pa_cons (sv 0) (pa_cons (pe_bltn (v := .ty "bool") rfl fc.b_bool boot_bool rfl) pa_nil)))))))))
theorem sc_is_within : FnScope ["thing", "least", "most"] (["thing", "least", "most"] : List Str) (defScope (top 2)) := ⟨rfl, rfl, rfl, by decide +kernel, rfl, by decide +kernel, by decide +kernel⟩
theorem ok_is_within (fc : Fc K mg) (tx : Tx tl K mg base) : ∃ fd, FunD K "is_within" "is_within" (defArgs (top 2)) (defBody (top 2)) (defScope (top 2)) [] [] (He.fAd K ("is_within", none)) fd ∧ FnG P w K mg base (L2.CX P w) 2 (He.fAd K ("is_within", none)) fd (["thing", "least", "most"] : List Str) (spD (gk K mg) m_is_within) ∧ Binds K fd (["thing", "least", "most"] : List Str) [] := by
  obtain ⟨fd_is_integer, F_is_integer, O_is_integer, B_is_integer⟩ := ok_is_integer (P := P) (w := w) (base := base) fc tx
  obtain ⟨fd, F⟩ := fc.f_is_within
  have nd : (["thing", "least", "most"] : List Str).Nodup := sc_is_within.nd
  refine ⟨fd, F, fn_okX (k := 1) F sc_is_within rfl rfl (fun cdv A outer s H E M0 hr tk po => ?_), F.bindsN fun _ _ _ _ _ _ us hl => match us, hl with | [_, _, _], _ => rfl⟩
  exact (ss_one (ss_ret (se_and (sx_call (O_is_integer.mono (by decide)) hr rfl fc.g_is_integer F_is_integer.kp B_is_integer tk (sa_cons (sv 0) sa_nil)) (se_one (se_chain (opb_int iLe) (opb_int iLe) (pe_chain op_le op_le (sv 1) (sv 0) (sv 2)))))))
theorem sc_is_row : FnScope ["bottom", "thing"] (["bottom", "thing"] : List Str) (defScope (top 17)) := ⟨rfl, rfl, rfl, by decide +kernel, rfl, by decide +kernel, by decide +kernel⟩
theorem ok_is_row (fc : Fc K mg) (tx : Tx tl K mg base) : ∃ fd, FunD K "is_row" "is_row" (defArgs (top 17)) (defBody (top 17)) (defScope (top 17)) [] [] (He.fAd K ("is_row", none)) fd ∧ FnG P w K mg base (L2.CX P w) 3 (He.fAd K ("is_row", none)) fd (["bottom", "thing"] : List Str) (spD (gk K mg) m_is_row) ∧ Binds K fd (["bottom", "thing"] : List Str) [] := by
  obtain ⟨fd_is_within, F_is_within, O_is_within, B_is_within⟩ := ok_is_within (P := P) (w := w) (base := base) fc tx
  obtain ⟨t_KINDS, i_KINDS⟩ := fc.j_KINDS
  obtain ⟨t_MOST_BURST, i_MOST_BURST⟩ := fc.j_MOST_BURST
  obtain ⟨fd, F⟩ := fc.f_is_row
  have nd : (["bottom", "thing"] : List Str).Nodup := sc_is_row.nd
  refine ⟨fd, F, fn_okX (k := 2) F sc_is_row rfl rfl (fun cdv A outer s H E M0 hr tk po => ?_), F.bindsN fun _ _ _ _ _ _ us hl => match us, hl with | [_, _], _ => rfl⟩
  exact (ss_cons (ss_if (st_isN (sv 1)) (ss_one (ss_ret se_bl)) ss_nil)
    (ss_cons (ss_if (st_w (sw_or (st_not (st_val (se_isTy (n := "tuple") (by decide) (pe_callB call_isi rfl fc.b_isinstance boot_isinstance (pa_cons (sv 1) (pa_cons (pe_bltn (v := .ty "tuple") rfl fc.b_tuple boot_tuple rfl) pa_nil)))) (fun _ => rfl))) (sw_or (st_cmp (op_neD (hu64 hr)) opb_ne (se_l1 l1_len (pe_callB call_len_seq rfl fc.b_len boot_len (pa_cons (sl_e (sv 1)) pa_nil))) se_int (nomark _)) (sw_or1 (st_not (st_val (sx_call (O_is_within.mono (by decide)) hr rfl fc.g_is_within F_is_within.kp B_is_within tk (sa_cons (se_ix (sl_e (sv 1)) se_int (fun _ _ => rfl)) (sa_cons se_int (sa_cons (se_gint rfl i_MOST_BURST) sa_nil)))) (fun _ => rfl))))))) (ss_one (ss_ret se_bl)) ss_nil)
    (ss_one (ss_ret (se_and (sx_call (O_is_within.mono (by decide)) hr rfl fc.g_is_within F_is_within.kp B_is_within tk (sa_cons (se_ix (sl_e (sv 1)) se_int (fun _ _ => rfl)) (sa_cons se_int (sa_cons (sv 0) sa_nil)))) (se_one (sx_call (O_is_within.mono (by decide)) hr rfl fc.g_is_within F_is_within.kp B_is_within tk (sa_cons (se_ix (sl_e (sv 1)) se_int (fun _ _ => rfl)) (sa_cons se_int (sa_cons (se_op op_sub ops_sub (se_gint rfl i_KINDS) se_int) sa_nil))))))))))
theorem sc_Buckets_init : FnScope ["self", "bottom", "rows", "number", "row"] (["self", "bottom", "rows"] : List Str) (defScope (inClass (top 18) 0)) := ⟨rfl, rfl, rfl, by decide +kernel, rfl, by decide +kernel, by decide +kernel⟩
theorem ok_Buckets_init (fc : Fc K mg) (tx : Tx tl K mg base) : ∃ fd, FunD K "__init__" "Buckets.__init__" (defArgs (inClass (top 18) 0)) (defBody (inClass (top 18) 0)) (defScope (inClass (top 18) 0)) [] [] (He.fAd K ("Buckets", some "__init__")) fd ∧ FnG P w K mg base (L2.CX P w) 4 (He.fAd K ("Buckets", some "__init__")) fd (["self", "bottom", "rows"] : List Str) (spD (gk K mg) m_Buckets_init) ∧ Binds K fd (["self", "bottom", "rows"] : List Str) [] := by
  obtain ⟨fd_is_row, F_is_row, O_is_row, B_is_row⟩ := ok_is_row (P := P) (w := w) (base := base) fc tx
  obtain ⟨fd_is_within, F_is_within, O_is_within, B_is_within⟩ := ok_is_within (P := P) (w := w) (base := base) fc tx
  obtain ⟨fd_BadBuckets_init, F_BadBuckets_init, O_BadBuckets_init, B_BadBuckets_init⟩ := ini_BadBuckets (P := P) (w := w) (base := base) fc
  obtain ⟨t_MOST_BOTTOM, i_MOST_BOTTOM⟩ := fc.j_MOST_BOTTOM
  obtain ⟨t_MOST_ROWS, i_MOST_ROWS⟩ := fc.j_MOST_ROWS
  obtain ⟨fd, F⟩ := fc.f_Buckets_init
  have nd : (["self", "bottom", "rows", "number", "row"] : List Str).Nodup := sc_Buckets_init.nd
  refine ⟨fd, F, fn_okX (k := 3) F sc_Buckets_init rfl rfl (fun cdv A outer s H E M0 hr tk po => ?_), F.bindsN fun _ _ _ _ _ _ us hl => match us, hl with | [_, _, _], _ => rfl⟩
  exact (ss_cons (ss_if (st_not (st_val (sx_call (O_is_within.mono (by decide)) hr rfl fc.g_is_within F_is_within.kp B_is_within tk (sa_cons (sv 1) (sa_cons se_int (sa_cons (se_gint rfl i_MOST_BOTTOM) sa_nil)))) (fun _ => rfl))) (ss_one (ss_raiseA (l := [("part", 1)]) rfl tk fc.ox_BadBuckets fc.g_BadBuckets rfl O_BadBuckets_init (hr.mono (by decide)) B_BadBuckets_init (by decide) (by decide) (by decide) (by decide) (sa_cons se_str sa_nil))) ss_nil)
    (ss_cons (ss_if (st_w (sw_or (st_not (st_val (se_isTy (n := "tuple") (by decide) (pe_callB call_isi rfl fc.b_isinstance boot_isinstance (pa_cons (sv 2) (pa_cons (pe_bltn (v := .ty "tuple") rfl fc.b_tuple boot_tuple rfl) pa_nil)))) (fun _ => rfl))) (sw_or1 (st_not (st_chain (opb_int iLe) (opb_int iLe) (pt_chain op_le op_le se_int (se_l1 l1_len (pe_callB call_len_seq rfl fc.b_len boot_len (pa_cons (sl_e (sv 2)) pa_nil))) (se_gint rfl i_MOST_ROWS))))))) (ss_one (ss_raiseA (l := [("part", 1)]) rfl tk fc.ox_BadBuckets fc.g_BadBuckets rfl O_BadBuckets_init (hr.mono (by decide)) B_BadBuckets_init (by decide) (by decide) (by decide) (by decide) (sa_cons se_str sa_nil))) ss_nil)
    (ss_cons (ss_for (g := (gTup _ 2 (gCons (gName 3) (gCons (gName 4) gNil)))) (is := ([3] ++ ([4] ++ []))) po rfl (si_enumA (pi_enumA rfl fc.b_enumerate (pa_cons (sv 2) pa_nil))) (pg_tup rfl (pgs_cons (pg_name (i := 3) nd rfl (by first | exact Or.inl rfl | exact Or.inr rfl)) (pgs_cons (pg_name (i := 4) nd rfl (by first | exact Or.inl rfl | exact Or.inr rfl)) pgs_nil))) (g_tup (gs_cons g_name (gs_cons g_name gs_nil))) (ss_one (ss_if (st_not (st_val (sx_call (O_is_row.mono (by decide)) hr rfl fc.g_is_row F_is_row.kp B_is_row tk (sa_cons (sv 1) (sa_cons (sv 4) sa_nil))) (fun _ => rfl))) (ss_one (ss_raiseA (l := [("part", 1)]) rfl tk fc.ox_BadBuckets fc.g_BadBuckets rfl O_BadBuckets_init (hr.mono (by decide)) B_BadBuckets_init (by decide) (by decide) (by decide) (by decide) (sa_cons (sv 3) sa_nil))) ss_nil)))
    (ss_cons (ss_fld (cs := ["Buckets"]) (by intro c hc; simp only [List.mem_cons, List.not_mem_nil, or_false] at hc; subst hc; exact fld_of fc.g_Buckets fc.c_Buckets fc.n_Buckets_bottom) (ps_fld (sv 0) (sv 1) rfl))
    (ss_one (ss_fld (cs := ["Buckets"]) (by intro c hc; simp only [List.mem_cons, List.not_mem_nil, or_false] at hc; subst hc; exact fld_of fc.g_Buckets fc.c_Buckets fc.n_Buckets_rows) (ps_fld (sv 0) (sv 2) rfl)))))))
theorem sc__law_sent : FnScope ["_law_row", "_law_bottom", "_law_beats"] (["_law_row", "_law_bottom", "_law_beats"] : List Str) (defScope (top 32)) := ⟨rfl, rfl, rfl, by decide +kernel, rfl, by decide +kernel, by decide +kernel⟩
theorem ok__law_sent (fc : Fc K mg) (tx : Tx tl K mg base) : ∃ fd, FunD K "_law_sent" "_law_sent" (defArgs (top 32)) (defBody (top 32)) (defScope (top 32)) [] [] (He.fAd K ("_law_sent", none)) fd ∧ FnG P w K mg base (L2.CX P w) 1 (He.fAd K ("_law_sent", none)) fd (["_law_row", "_law_bottom", "_law_beats"] : List Str) (spD (gk K mg) m__law_sent) ∧ Binds K fd (["_law_row", "_law_bottom", "_law_beats"] : List Str) [] := by
  obtain ⟨fd, F⟩ := fc.f__law_sent
  have nd : (["_law_row", "_law_bottom", "_law_beats"] : List Str).Nodup := sc__law_sent.nd
  refine ⟨fd, F, fn_okX (k := 0) F sc__law_sent rfl rfl (fun cdv A outer s H E M0 hr tk po => ?_), F.bindsN fun _ _ _ _ _ _ us hl => match us, hl with | [_, _, _], _ => rfl⟩
  exact (ss_one (ss_ret (se_if (st_isN (sv 0)) se_int (se_min2 (pe_callB (call_min2 rfl) rfl fc.b_min boot_min (pa_cons (sv 2) (pa_cons (se_op op_addA ops_add (se_ix (sl_e (sv 0)) se_int (fun _ _ => rfl)) (se_intOf (pe_callTy call_int1 rfl fc.b_int boot_int (pa_cons (se_op op_fdiv ops_div (se_op op_mulA ops_mul (se_ix (sl_e (sv 0)) se_int (fun _ _ => rfl)) (sv 2)) (sv 1)) pa_nil)))) pa_nil)))))))
theorem sc__law_breach : FnScope ["_law_rows_here", "_law_bottom", "_law_stream_here", "_law_to", "_law_line", "_law_row", "_law_many", "_law_begin"] (["_law_rows_here", "_law_bottom", "_law_stream_here"] : List Str) (defScope (top 37)) := ⟨rfl, rfl, rfl, by decide +kernel, rfl, by decide +kernel, by decide +kernel⟩
theorem ok__law_breach (fc : Fc K mg) (tx : Tx tl K mg base) : ∃ fd, FunD K "_law_breach" "_law_breach" (defArgs (top 37)) (defBody (top 37)) (defScope (top 37)) [] [] (He.fAd K ("_law_breach", none)) fd ∧ FnG P w K mg base (L2.CX P w) 2 (He.fAd K ("_law_breach", none)) fd (["_law_rows_here", "_law_bottom", "_law_stream_here"] : List Str) (spD (gk K mg) m__law_breach) ∧ Binds K fd (["_law_rows_here", "_law_bottom", "_law_stream_here"] : List Str) [] := by
  obtain ⟨fd__law_sent, F__law_sent, O__law_sent, B__law_sent⟩ := ok__law_sent (P := P) (w := w) (base := base) fc tx
  obtain ⟨fd, F⟩ := fc.f__law_breach
  have nd : (["_law_rows_here", "_law_bottom", "_law_stream_here", "_law_to", "_law_line", "_law_row", "_law_many", "_law_begin"] : List Str).Nodup := sc__law_breach.nd
  refine ⟨fd, F, fn_okX (k := 1) F sc__law_breach rfl rfl (fun cdv A outer s H E M0 hr tk po => ?_), F.bindsN fun _ _ _ _ _ _ us hl => match us, hl with | [_, _, _], _ => rfl⟩
  exact (ss_cons (ss_for (g := (gName 3)) (is := [3]) po rfl (si_range1 (pi_range1 rfl fc.b_range (pa_cons (se_l1 l1_len (pe_callB call_len_seq rfl fc.b_len boot_len (pa_cons (sl_e (sv 2)) pa_nil))) pa_nil))) (pg_name (i := 3) nd rfl (by first | exact Or.inl rfl | exact Or.inr rfl)) g_name (ss_one (ss_for (g := (gTup _ 2 (gCons (gName 4) (gCons (gName 5) gNil)))) (is := ([4] ++ ([5] ++ []))) po rfl (si_enumA (pi_enumA rfl fc.b_enumerate (pa_cons (sv 0) pa_nil))) (pg_tup rfl (pgs_cons (pg_name (i := 4) nd rfl (by first | exact Or.inl rfl | exact Or.inr rfl)) (pgs_cons (pg_name (i := 5) nd rfl (by first | exact Or.inl rfl | exact Or.inr rfl)) pgs_nil))) (g_tup (gs_cons g_name (gs_cons g_name gs_nil))) (ss_cons (ss_set (i := 6) nd rfl (by first | exact Or.inl rfl | exact Or.inr rfl) se_int (.inl rfl))
    (ss_one (ss_for (g := (gName 7)) (is := [7]) po rfl (si_range3 (pi_range3 rfl fc.b_range (pa_cons (sv 3) (pa_cons (se_neg se_int) (pa_cons (se_neg se_int) pa_nil))))) (pg_name (i := 7) nd rfl (by first | exact Or.inl rfl | exact Or.inr rfl)) g_name (ss_cons (ss_set (i := 6) nd rfl (by first | exact Or.inl rfl | exact Or.inr rfl) (se_op op_addA ops_add (sv 6) (se_intOf (pe_callTy call_int1 rfl fc.b_int boot_int (pa_cons (se_in (op_inA (hu65 hr)) (sv 4) (sl_e (se_ix (sl_e (sv 2)) (sv 7) (fun _ _ => rfl))) (by with_unfolding_all rfl)) pa_nil)))) (.inl rfl))
    (ss_one (ss_if (st_cmp op_gt (opb_int iGt) (sv 6) (sx_call (O__law_sent.mono (by decide)) hr rfl fc.g__law_sent F__law_sent.kp B__law_sent tk (sa_cons (sv 5) (sa_cons (sv 1) (sa_cons (se_op op_addA ops_add (se_op op_sub ops_sub (sv 3) (sv 7)) se_int) sa_nil)))) (nomark _)) (ss_one (ss_ret (se_tup (sa_cons (sv 4) (sa_cons (sv 7) (sa_cons (sv 3) sa_nil)))))) ss_nil)))))))))
    (ss_one (ss_ret se_non)))
theorem sc__law_draw : FnScope ["_law_hand_here", "_law_many", "_law_cell", "_law_digit", "_law_number"] (["_law_hand_here", "_law_many"] : List Str) (defScope (top 28)) := ⟨rfl, rfl, rfl, by decide +kernel, rfl, by decide +kernel, by decide +kernel⟩
theorem ok__law_draw (fc : Fc K mg) (tx : Tx tl K mg base) : ∃ fd, FunD K "_law_draw" "_law_draw" (defArgs (top 28)) (defBody (top 28)) (defScope (top 28)) [] [] (He.fAd K ("_law_draw", none)) fd ∧ FnG P w K mg base (L2.CX P w) 1 (He.fAd K ("_law_draw", none)) fd (["_law_hand_here", "_law_many"] : List Str) (spD (gk K mg) m__law_draw) ∧ Binds K fd (["_law_hand_here", "_law_many"] : List Str) [] := by
  obtain ⟨fd, F⟩ := fc.f__law_draw
  have nd : (["_law_hand_here", "_law_many", "_law_cell", "_law_digit", "_law_number"] : List Str).Nodup := sc__law_draw.nd
  refine ⟨fd, F, fn_okX (k := 0) F sc__law_draw rfl rfl (fun cdv A outer s H E M0 hr tk po => ?_), F.bindsN fun _ _ _ _ _ _ us hl => match us, hl with | [_, _], _ => rfl⟩
  exact (ss_cons (ss_if (st_w (sw_and (st_cmp (op_eqD (hu64 hr)) opb_eq (se_ix (sl_e (sv 0)) se_int (fun _ _ => rfl)) se_int (nomark _)) (sw_and1 (st_cmp op_lt (opb_int iLt) (se_ix (sl_e (sv 0)) se_int (fun _ _ => rfl)) (se_l1 l1_len (pe_callB call_len_seq rfl fc.b_len boot_len (pa_cons (sl_e (se_ix (sl_e (sv 0)) se_int (fun _ _ => rfl))) pa_nil))) (nomark _))))) (ss_cons (ss_set (i := 2) nd rfl (by first | exact Or.inl rfl | exact Or.inr rfl) (se_ix (sl_e (se_ix (sl_e (sv 0)) se_int (fun _ _ => rfl))) (se_ix (sl_e (sv 0)) se_int (fun _ _ => rfl)) (fun _ _ => rfl)) (.inl rfl))
    (ss_cons (ss_putR (ps_asg (se_op op_addA ops_add (se_ix (sl_e (sv 0)) se_int (fun _ _ => rfl)) se_int) (pg_sub (sv 0) se_int set_list)))
    (ss_cons (ss_putR (ps_asg (se_op op_mod ops_mod (se_intOf (pe_callTy call_int1 rfl fc.b_int boot_int (pa_cons (se_op op_addA ops_add (se_op op_addA ops_add (se_op op_mulA ops_mul (se_ix (sl_e (sv 0)) se_int (fun _ _ => rfl)) se_int) (sv 2)) se_int) pa_nil))) se_int) (pg_sub (sv 0) se_int set_list)))
    (ss_one (ss_if (st_cmp op_ge (opb_int iGe) (sv 2) (se_op op_pow ops_pow se_int se_int) (nomark _)) (ss_one (ss_putR (ps_asg (sv 2) (pg_sub (sv 0) se_int set_list)))) ss_nil))))) ss_nil)
    (ss_cons (ss_if (st_cmp op_gt (opb_int iGt) (se_ix (sl_e (sv 0)) se_int (fun _ _ => rfl)) se_int (nomark _)) (ss_cons (ss_set (i := 3) nd rfl (by first | exact Or.inl rfl | exact Or.inr rfl) (se_op op_mod ops_mod (se_intOf (pe_callTy call_int1 rfl fc.b_int boot_int (pa_cons (se_ix (sl_e (sv 0)) se_int (fun _ _ => rfl)) pa_nil))) (sv 1)) (.inl rfl))
    (ss_cons (ss_putR (ps_asg (se_op op_fdiv ops_div (se_ix (sl_e (sv 0)) se_int (fun _ _ => rfl)) (sv 1)) (pg_sub (sv 0) se_int set_list)))
    (ss_one (ss_ret (sv 3))))) ss_nil)
    (ss_cons (ss_putR (ps_asg (se_op op_addA ops_add (se_ix (sl_e (sv 0)) se_int (fun _ _ => rfl)) se_int) (pg_sub (sv 0) se_int set_list)))
    (ss_cons (ss_set (i := 4) nd rfl (by first | exact Or.inl rfl | exact Or.inr rfl) (se_op op_mod ops_mod (se_intOf (pe_callTy call_int1 rfl fc.b_int boot_int (pa_cons (se_op op_mulA ops_mul (se_intOf (pe_callTy call_int1 rfl fc.b_int boot_int (pa_cons (se_op op_addA ops_add (se_ix (sl_e (sv 0)) se_int (fun _ _ => rfl)) (se_op op_mulA ops_mul se_int (se_ix (sl_e (sv 0)) se_int (fun _ _ => rfl)))) pa_nil))) se_int) pa_nil))) se_int) (.inl rfl))
    (ss_cons (ss_set (i := 4) nd rfl (by first | exact Or.inl rfl | exact Or.inr rfl) (se_op op_mod ops_mod (se_intOf (pe_callTy call_int1 rfl fc.b_int boot_int (pa_cons (se_op op_mulA ops_mul (sv 4) (se_op op_addA ops_add (se_op op_fdiv ops_div (sv 4) se_int) se_int)) pa_nil))) se_int) (.inl rfl))
    (ss_cons (ss_set (i := 4) nd rfl (by first | exact Or.inl rfl | exact Or.inr rfl) (se_op op_mod ops_mod (se_intOf (pe_callTy call_int1 rfl fc.b_int boot_int (pa_cons (se_op op_mulA ops_mul (sv 4) (se_op op_addA ops_add (se_op op_fdiv ops_div (sv 4) se_int) se_int)) pa_nil))) se_int) (.inl rfl))
    (ss_one (ss_ret (se_op op_mod ops_mod (se_intOf (pe_callTy call_int1 rfl fc.b_int boot_int (pa_cons (se_op op_fdiv ops_div (sv 4) se_int) pa_nil))) (sv 1))))))))))
theorem sc__law_hand : FnScope ["_law_script", "_law_cells", "_law_cell"] (["_law_script"] : List Str) (defScope (top 27)) := ⟨rfl, rfl, rfl, by decide +kernel, rfl, by decide +kernel, by decide +kernel⟩
theorem ok__law_hand (fc : Fc K mg) (tx : Tx tl K mg base) : ∃ fd, FunD K "_law_hand" "_law_hand" (defArgs (top 27)) (defBody (top 27)) (defScope (top 27)) [] [] (He.fAd K ("_law_hand", none)) fd ∧ FnG P w K mg base (L2.CX P w) 1 (He.fAd K ("_law_hand", none)) fd (["_law_script"] : List Str) (spD (gk K mg) m__law_hand) ∧ Binds K fd (["_law_script"] : List Str) [] := by
  obtain ⟨fd, F⟩ := fc.f__law_hand
  have nd : (["_law_script", "_law_cells", "_law_cell"] : List Str).Nodup := sc__law_hand.nd
  refine ⟨fd, F, fn_okX (k := 0) F sc__law_hand rfl rfl (fun cdv A outer s H E M0 hr tk po => ?_), F.bindsN fun _ _ _ _ _ _ us hl => match us, hl with | [_], _ => rfl⟩
  exact (ss_cons (ss_lcFT g_name (gs_in rfl) (ps_setLc (i := 1) (own := [("_law_cell", 2)]) rfl nd rfl rfl (sw_true rfl rfl rfl (by decide +kernel)) (si_seq (se_slice (sl_e (sv 0)) so_none (so_some se_int))) (blkOk_by (N := ["_law_script", "_law_cells", "_law_cell"]) (sc := defScope (top 27)) (by decide +kernel)) (fun _ _ _ _ _ => (pg_name (i := 2) nd rfl (by first | exact Or.inl rfl | exact Or.inr rfl))) (fun _ _ _ _ _ => pts_y) (fun _ _ _ _ _ => (se_abs (pe_callB call_abs rfl fc.b_abs boot_abs (pa_cons (se_intOf (pe_callTy call_int1 rfl fc.b_int boot_int (pa_cons (sv 2) pa_nil))) pa_nil)))) ))
    (ss_one (ss_ret (se_new (sn_lst (sa_cons (sv 1) (sa_cons se_int (sa_cons se_int (sa_cons (se_op op_addA ops_add se_int (se_l1 l1_len (pe_callB call_len_seq rfl fc.b_len boot_len (pa_cons (sl_e (sv 1)) pa_nil)))) (sa_cons se_int sa_nil))))))))))
theorem sc__law_deep : FnScope ["_law_hand_here", "_law_found", "_law_turn"] (["_law_hand_here"] : List Str) (defScope (top 34)) := ⟨rfl, rfl, rfl, by decide +kernel, rfl, by decide +kernel, by decide +kernel⟩
theorem ok__law_deep (fc : Fc K mg) (tx : Tx tl K mg base) : ∃ fd, FunD K "_law_deep" "_law_deep" (defArgs (top 34)) (defBody (top 34)) (defScope (top 34)) [] [] (He.fAd K ("_law_deep", none)) fd ∧ FnG P w K mg base (L2.CX P w) 2 (He.fAd K ("_law_deep", none)) fd (["_law_hand_here"] : List Str) (spD (gk K mg) m__law_deep) ∧ Binds K fd (["_law_hand_here"] : List Str) [] := by
  obtain ⟨fd__law_draw, F__law_draw, O__law_draw, B__law_draw⟩ := ok__law_draw (P := P) (w := w) (base := base) fc tx
  obtain ⟨fd, F⟩ := fc.f__law_deep
  have nd : (["_law_hand_here", "_law_found", "_law_turn"] : List Str).Nodup := sc__law_deep.nd
  refine ⟨fd, F, fn_okX (k := 1) F sc__law_deep rfl rfl (fun cdv A outer s H E M0 hr tk po => ?_), F.bindsN fun _ _ _ _ _ _ us hl => match us, hl with | [_], _ => rfl⟩
  exact (ss_cons (ss_set (i := 1) nd rfl (by first | exact Or.inl rfl | exact Or.inr rfl) (se_ix (sl_e (se_frz (sn_lst (sa_cons se_non (sa_cons (se_tup sa_nil) (sa_cons se_int (sa_cons se_str sa_nil))))))) (sx_call (O__law_draw.mono (by decide)) hr rfl fc.g__law_draw F__law_draw.kp B__law_draw tk (sa_cons (sv 0) (sa_cons se_int sa_nil))) (fun _ _ => rfl)) (.inl rfl))
    (ss_cons (ss_for (g := (gName 2)) (is := [2]) po rfl (si_range1 (pi_range1 rfl fc.b_range (pa_cons (se_op op_addA ops_add se_int (sx_call (O__law_draw.mono (by decide)) hr rfl fc.g__law_draw F__law_draw.kp B__law_draw tk (sa_cons (sv 0) (sa_cons se_int sa_nil)))) pa_nil))) (pg_name (i := 2) nd rfl (by first | exact Or.inl rfl | exact Or.inr rfl)) g_name (ss_one (ss_set (i := 1) nd rfl (by first | exact Or.inl rfl | exact Or.inr rfl) (se_ix (sl_e (se_frz (sn_lst (sa_cons (se_tup (sa_cons (sv 1) sa_nil)) (sa_cons (se_frz (sn_lst (sa_cons (sv 1) sa_nil))) sa_nil))))) (sx_call (O__law_draw.mono (by decide)) hr rfl fc.g__law_draw F__law_draw.kp B__law_draw tk (sa_cons (sv 0) (sa_cons se_int sa_nil))) (fun _ _ => rfl)) (.inl rfl))))
    (ss_one (ss_ret (sv 1)))))
theorem sc__law_is_int : FnScope ["_law_thing", "_law_least", "_law_most"] (["_law_thing", "_law_least", "_law_most"] : List Str) (defScope (top 33)) := ⟨rfl, rfl, rfl, by decide +kernel, rfl, by decide +kernel, by decide +kernel⟩
theorem ok__law_is_int (fc : Fc K mg) (tx : Tx tl K mg base) : ∃ fd, FunD K "_law_is_int" "_law_is_int" (defArgs (top 33)) (defBody (top 33)) (defScope (top 33)) [] [] (He.fAd K ("_law_is_int", none)) fd ∧ FnG P w K mg base (L2.CX P w) 1 (He.fAd K ("_law_is_int", none)) fd (["_law_thing", "_law_least", "_law_most"] : List Str) (spD (gk K mg) m__law_is_int) ∧ Binds K fd (["_law_thing", "_law_least", "_law_most"] : List Str) [] := by
  obtain ⟨fd, F⟩ := fc.f__law_is_int
  have nd : (["_law_thing", "_law_least", "_law_most"] : List Str).Nodup := sc__law_is_int.nd
  refine ⟨fd, F, fn_okX (k := 0) F sc__law_is_int rfl rfl (fun cdv A outer s H E M0 hr tk po => ?_), F.bindsN fun _ _ _ _ _ _ us hl => match us, hl with | [_, _, _], _ => rfl⟩
  exact (ss_one (ss_ret (se_and (se_isTy (n := "int") (by decide) (pe_callB call_isi rfl fc.b_isinstance boot_isinstance (pa_cons (sv 0) (pa_cons (pe_bltn (v := .ty "int") rfl fc.b_int boot_int rfl) pa_nil)))) (se_and (se_not (se_isTy (n := "bool") (by decide) (pe_callB call_isi rfl fc.b_isinstance boot_isinstance (pa_cons (sv 0) (pa_cons (pe_bltn (v := .ty "bool") rfl fc.b_bool boot_bool rfl) pa_nil))))) (se_one (se_chain (opb_int iLe) (opb_int iLe) (pe_chain op_le op_le (sv 1) (sv 0) (sv 2))))))))
theorem sc__law_is_row : FnScope ["_law_bottom", "_law_thing"] (["_law_bottom", "_law_thing"] : List Str) (defScope (top 38)) := ⟨rfl, rfl, rfl, by decide +kernel, rfl, by decide +kernel, by decide +kernel⟩
theorem ok__law_is_row (fc : Fc K mg) (tx : Tx tl K mg base) : ∃ fd, FunD K "_law_is_row" "_law_is_row" (defArgs (top 38)) (defBody (top 38)) (defScope (top 38)) [] [] (He.fAd K ("_law_is_row", none)) fd ∧ FnG P w K mg base (L2.CX P w) 2 (He.fAd K ("_law_is_row", none)) fd (["_law_bottom", "_law_thing"] : List Str) (spD (gk K mg) m__law_is_row) ∧ Binds K fd (["_law_bottom", "_law_thing"] : List Str) [] := by
  obtain ⟨fd__law_is_int, F__law_is_int, O__law_is_int, B__law_is_int⟩ := ok__law_is_int (P := P) (w := w) (base := base) fc tx
  obtain ⟨fd, F⟩ := fc.f__law_is_row
  have nd : (["_law_bottom", "_law_thing"] : List Str).Nodup := sc__law_is_row.nd
  refine ⟨fd, F, fn_okX (k := 1) F sc__law_is_row rfl rfl (fun cdv A outer s H E M0 hr tk po => ?_), F.bindsN fun _ _ _ _ _ _ us hl => match us, hl with | [_, _], _ => rfl⟩
  exact (ss_cons (ss_if (st_isN (sv 1)) (ss_one (ss_ret se_bl)) ss_nil)
    (ss_cons (ss_if (st_w (sw_or (st_not (st_val (se_isTy (n := "tuple") (by decide) (pe_callB call_isi rfl fc.b_isinstance boot_isinstance (pa_cons (sv 1) (pa_cons (pe_bltn (v := .ty "tuple") rfl fc.b_tuple boot_tuple rfl) pa_nil)))) (fun _ => rfl))) (sw_or1 (st_cmp (op_neD (hu64 hr)) opb_ne (se_l1 l1_len (pe_callB call_len_seq rfl fc.b_len boot_len (pa_cons (sl_e (sv 1)) pa_nil))) se_int (nomark _))))) (ss_one (ss_ret se_bl)) ss_nil)
    (ss_one (ss_ret (se_and (sx_call (O__law_is_int.mono (by decide)) hr rfl fc.g__law_is_int F__law_is_int.kp B__law_is_int tk (sa_cons (se_ix (sl_e (sv 1)) se_int (fun _ _ => rfl)) (sa_cons se_int (sa_cons se_int sa_nil)))) (se_and (sx_call (O__law_is_int.mono (by decide)) hr rfl fc.g__law_is_int F__law_is_int.kp B__law_is_int tk (sa_cons (se_ix (sl_e (sv 1)) se_int (fun _ _ => rfl)) (sa_cons se_int (sa_cons (sv 0) sa_nil)))) (se_one (sx_call (O__law_is_int.mono (by decide)) hr rfl fc.g__law_is_int F__law_is_int.kp B__law_is_int tk (sa_cons (se_ix (sl_e (sv 1)) se_int (fun _ _ => rfl)) (sa_cons se_int (sa_cons se_int sa_nil)))))))))))
theorem sc__law_due : FnScope ["_law_bottom", "_law_rows_here", "_law_line", "_law_row"] (["_law_bottom", "_law_rows_here"] : List Str) (defScope (top 39)) := ⟨rfl, rfl, rfl, by decide +kernel, rfl, by decide +kernel, by decide +kernel⟩
theorem ok__law_due (fc : Fc K mg) (tx : Tx tl K mg base) : ∃ fd, FunD K "_law_due" "_law_due" (defArgs (top 39)) (defBody (top 39)) (defScope (top 39)) [] [] (He.fAd K ("_law_due", none)) fd ∧ FnG P w K mg base (L2.CX P w) 3 (He.fAd K ("_law_due", none)) fd (["_law_bottom", "_law_rows_here"] : List Str) (spD (gk K mg) m__law_due) ∧ Binds K fd (["_law_bottom", "_law_rows_here"] : List Str) [] := by
  obtain ⟨fd__law_is_int, F__law_is_int, O__law_is_int, B__law_is_int⟩ := ok__law_is_int (P := P) (w := w) (base := base) fc tx
  obtain ⟨fd__law_is_row, F__law_is_row, O__law_is_row, B__law_is_row⟩ := ok__law_is_row (P := P) (w := w) (base := base) fc tx
  obtain ⟨fd, F⟩ := fc.f__law_due
  have nd : (["_law_bottom", "_law_rows_here", "_law_line", "_law_row"] : List Str).Nodup := sc__law_due.nd
  refine ⟨fd, F, fn_okX (k := 2) F sc__law_due rfl rfl (fun cdv A outer s H E M0 hr tk po => ?_), F.bindsN fun _ _ _ _ _ _ us hl => match us, hl with | [_, _], _ => rfl⟩
  exact (ss_cons (ss_if (st_not (st_val (sx_call (O__law_is_int.mono (by decide)) hr rfl fc.g__law_is_int F__law_is_int.kp B__law_is_int tk (sa_cons (sv 0) (sa_cons se_int (sa_cons se_int sa_nil)))) (fun _ => rfl))) (ss_one (ss_ret se_str)) ss_nil)
    (ss_cons (ss_if (st_w (sw_or (st_not (st_val (se_isTy (n := "tuple") (by decide) (pe_callB call_isi rfl fc.b_isinstance boot_isinstance (pa_cons (sv 1) (pa_cons (pe_bltn (v := .ty "tuple") rfl fc.b_tuple boot_tuple rfl) pa_nil)))) (fun _ => rfl))) (sw_or1 (st_not (st_chain (opb_int iLe) (opb_int iLe) (pt_chain op_le op_le se_int (se_l1 l1_len (pe_callB call_len_seq rfl fc.b_len boot_len (pa_cons (sl_e (sv 1)) pa_nil))) se_int)))))) (ss_one (ss_ret se_str)) ss_nil)
    (ss_cons (ss_for (g := (gTup _ 2 (gCons (gName 2) (gCons (gName 3) gNil)))) (is := ([2] ++ ([3] ++ []))) po rfl (si_enumA (pi_enumA rfl fc.b_enumerate (pa_cons (sv 1) pa_nil))) (pg_tup rfl (pgs_cons (pg_name (i := 2) nd rfl (by first | exact Or.inl rfl | exact Or.inr rfl)) (pgs_cons (pg_name (i := 3) nd rfl (by first | exact Or.inl rfl | exact Or.inr rfl)) pgs_nil))) (g_tup (gs_cons g_name (gs_cons g_name gs_nil))) (ss_one (ss_if (st_not (st_val (sx_call (O__law_is_row.mono (by decide)) hr rfl fc.g__law_is_row F__law_is_row.kp B__law_is_row tk (sa_cons (sv 0) (sa_cons (sv 3) sa_nil))) (fun _ => rfl))) (ss_one (ss_ret (sv 2))) ss_nil)))
    (ss_one (ss_ret se_non)))))
theorem sc__law_pick : FnScope ["_law_hand_here", "_law_things"] (["_law_hand_here", "_law_things"] : List Str) (defScope (top 29)) := ⟨rfl, rfl, rfl, by decide +kernel, rfl, by decide +kernel, by decide +kernel⟩
theorem ok__law_pick (fc : Fc K mg) (tx : Tx tl K mg base) : ∃ fd, FunD K "_law_pick" "_law_pick" (defArgs (top 29)) (defBody (top 29)) (defScope (top 29)) [] [] (He.fAd K ("_law_pick", none)) fd ∧ FnG P w K mg base (L2.CX P w) 2 (He.fAd K ("_law_pick", none)) fd (["_law_hand_here", "_law_things"] : List Str) (spD (gk K mg) m__law_pick) ∧ Binds K fd (["_law_hand_here", "_law_things"] : List Str) [] := by
  obtain ⟨fd__law_draw, F__law_draw, O__law_draw, B__law_draw⟩ := ok__law_draw (P := P) (w := w) (base := base) fc tx
  obtain ⟨fd, F⟩ := fc.f__law_pick
  have nd : (["_law_hand_here", "_law_things"] : List Str).Nodup := sc__law_pick.nd
  refine ⟨fd, F, fn_okX (k := 1) F sc__law_pick rfl rfl (fun cdv A outer s H E M0 hr tk po => ?_), F.bindsN fun _ _ _ _ _ _ us hl => match us, hl with | [_, _], _ => rfl⟩
  exact (ss_one (ss_ret (se_ix (sl_e (sv 1)) (sx_call (O__law_draw.mono (by decide)) hr rfl fc.g__law_draw F__law_draw.kp B__law_draw tk (sa_cons (sv 0) (sa_cons (se_l1 l1_len (pe_callB call_len_seq rfl fc.b_len boot_len (pa_cons (sl_e (sv 1)) pa_nil))) sa_nil))) (fun _ _ => rfl))))
theorem sc__law_odd_rows : FnScope ["_law_hand_here", "_law_bottom", "_law_rows_here", "_law_at", "_law_row", "_law_side", "_law_part", "_law_more", "_law_some"] (["_law_hand_here", "_law_bottom", "_law_rows_here"] : List Str) (defScope (top 41)) := ⟨rfl, rfl, rfl, by decide +kernel, rfl, by decide +kernel, by decide +kernel⟩
theorem ok__law_odd_rows (fc : Fc K mg) (tx : Tx tl K mg base) : ∃ fd, FunD K "_law_odd_rows" "_law_odd_rows" (defArgs (top 41)) (defBody (top 41)) (defScope (top 41)) [] [] (He.fAd K ("_law_odd_rows", none)) fd ∧ FnG P w K mg base (L2.CX P w) 3 (He.fAd K ("_law_odd_rows", none)) fd (["_law_hand_here", "_law_bottom", "_law_rows_here"] : List Str) (spD (gk K mg) m__law_odd_rows) ∧ Binds K fd (["_law_hand_here", "_law_bottom", "_law_rows_here"] : List Str) [] := by
  obtain ⟨fd__law_deep, F__law_deep, O__law_deep, B__law_deep⟩ := ok__law_deep (P := P) (w := w) (base := base) fc tx
  obtain ⟨fd__law_draw, F__law_draw, O__law_draw, B__law_draw⟩ := ok__law_draw (P := P) (w := w) (base := base) fc tx
  obtain ⟨fd__law_pick, F__law_pick, O__law_pick, B__law_pick⟩ := ok__law_pick (P := P) (w := w) (base := base) fc tx
  obtain ⟨fd, F⟩ := fc.f__law_odd_rows
  have nd : (["_law_hand_here", "_law_bottom", "_law_rows_here", "_law_at", "_law_row", "_law_side", "_law_part", "_law_more", "_law_some"] : List Str).Nodup := sc__law_odd_rows.nd
  refine ⟨fd, F, fn_okX (k := 2) F sc__law_odd_rows rfl rfl (fun cdv A outer s H E M0 hr tk po => ?_), F.bindsN fun _ _ _ _ _ _ us hl => match us, hl with | [_, _, _], _ => rfl⟩
  exact (ss_cons (ss_set (i := 3) nd rfl (by first | exact Or.inl rfl | exact Or.inr rfl) (sx_call (O__law_draw.mono (by decide)) hr rfl fc.g__law_draw F__law_draw.kp B__law_draw tk (sa_cons (sv 0) (sa_cons (se_l1 l1_len (pe_callB call_len_seq rfl fc.b_len boot_len (pa_cons (sl_e (sv 2)) pa_nil))) sa_nil))) (.inl rfl))
    (ss_cons (ss_set (i := 4) nd rfl (by first | exact Or.inl rfl | exact Or.inr rfl) (se_if (st_notN (se_ix (sl_e (sv 2)) (sv 3) (fun _ _ => rfl))) (se_ix (sl_e (sv 2)) (sv 3) (fun _ _ => rfl)) (se_tup (sa_cons se_int (sa_cons se_int (sa_cons se_int sa_nil))))) (.inl rfl))
    (ss_cons (ss_set (i := 5) nd rfl (by first | exact Or.inl rfl | exact Or.inr rfl) (sx_call (O__law_draw.mono (by decide)) hr rfl fc.g__law_draw F__law_draw.kp B__law_draw tk (sa_cons (sv 0) (sa_cons se_int sa_nil))) (.inl rfl))
    (ss_cons (ss_set (i := 6) nd rfl (by first | exact Or.inl rfl | exact Or.inr rfl) (sx_call (O__law_pick.mono (by decide)) hr rfl fc.g__law_pick F__law_pick.kp B__law_pick tk (sa_cons (sv 0) (sa_cons (se_frz (sn_lst (sa_cons (se_neg se_int) (sa_cons se_int (sa_cons se_int (sa_cons (se_op op_addA ops_add (sv 1) se_int) (sa_cons se_int (sa_cons se_bl (sa_cons se_non (sa_cons se_str (sa_cons (se_tup (sa_cons se_int sa_nil)) (sa_cons (sx_call (O__law_deep.mono (by decide)) hr rfl fc.g__law_deep F__law_deep.kp B__law_deep tk (sa_cons (sv 0) sa_nil)) sa_nil)))))))))))) sa_nil))) (.inl rfl))
    (ss_cons (ss_set (i := 7) nd rfl (by first | exact Or.inl rfl | exact Or.inr rfl) (se_op op_addA ops_add (se_op op_addA ops_add (se_slice (sl_e (sv 4)) so_none (so_some (sv 5))) (se_tup (sa_cons (sv 6) sa_nil))) (se_slice (sl_e (sv 4)) (so_some (se_op op_addA ops_add (sv 5) se_int)) so_none)) (.inl rfl))
    (ss_cons (ss_set (i := 8) nd rfl (by first | exact Or.inl rfl | exact Or.inr rfl) (se_frz (sn_lst (sa_cons (se_op op_addA ops_add (se_op op_addA ops_add (se_slice (sl_e (sv 2)) so_none (so_some (sv 3))) (se_tup (sa_cons (sv 7) sa_nil))) (se_slice (sl_e (sv 2)) (so_some (se_op op_addA ops_add (sv 3) se_int)) so_none)) (sa_cons (se_op op_addA ops_add (se_op op_addA ops_add (se_slice (sl_e (sv 2)) so_none (so_some (sv 3))) (se_tup (sa_cons (se_frz (sn_lstOf (pe_callTy call_list_of rfl fc.b_list boot_list (pa_cons (sl_e (sv 4)) pa_nil)))) sa_nil))) (se_slice (sl_e (sv 2)) (so_some (se_op op_addA ops_add (sv 3) se_int)) so_none)) (sa_cons (se_frz (sn_lstOf (pe_callTy call_list_of rfl fc.b_list boot_list (pa_cons (sl_e (sv 2)) pa_nil)))) (sa_cons (se_tup sa_nil) sa_nil)))))) (.inl rfl))
    (ss_cons (ss_set (i := 8) nd rfl (by first | exact Or.inl rfl | exact Or.inr rfl) (se_op op_addA ops_add (sv 8) (se_frz (sn_lst (sa_cons (se_op op_mulA ops_mul (sv 2) se_int) (sa_cons se_non sa_nil))))) (.inl rfl))
    (ss_one (ss_ret (sx_call (O__law_pick.mono (by decide)) hr rfl fc.g__law_pick F__law_pick.kp B__law_pick tk (sa_cons (sv 0) (sa_cons (se_op op_addA ops_add (sv 8) (se_frz (sn_lst (sa_cons (se_ix (sl_e (sv 8)) se_int (fun _ _ => rfl)) (sa_cons (se_ix (sl_e (sv 8)) se_int (fun _ _ => rfl)) (sa_cons (se_op op_addA ops_add (se_op op_addA ops_add (se_slice (sl_e (sv 2)) so_none (so_some (sv 3))) (se_tup (sa_cons (se_slice (sl_e (sv 4)) so_none (so_some se_int)) sa_nil))) (se_slice (sl_e (sv 2)) (so_some (se_op op_addA ops_add (sv 3) se_int)) so_none)) sa_nil)))))) sa_nil))))))))))))
theorem sc__law_same : FnScope ["_law_told_here", "_law_due_here", "_law_one", "_law_two"] (["_law_told_here", "_law_due_here"] : List Str) (defScope (top 30)) := ⟨rfl, rfl, rfl, by decide +kernel, rfl, by decide +kernel, by decide +kernel⟩
theorem okn__law_same (fc : Fc K mg) (tx : Tx tl K mg base) : ∃ fd, FunD K "_law_same" "_law_same" (defArgs (top 30)) (defBody (top 30)) (defScope (top 30)) [] [] (He.fAd K ("_law_same", none)) fd ∧ (∀ n, FnG P w K mg base (L2.CX P w) (1 + n) (He.fAd K ("_law_same", none)) fd (["_law_told_here", "_law_due_here"] : List Str) (spD (gk K mg) (m__law_same_n n))) ∧ Binds K fd (["_law_told_here", "_law_due_here"] : List Str) [] := by
  obtain ⟨fd__law_same, F__law_same⟩ := fc.f__law_same
  have nd : (["_law_told_here", "_law_due_here", "_law_one", "_law_two"] : List Str).Nodup := sc__law_same.nd
  have B__law_same : Binds K fd__law_same (["_law_told_here", "_law_due_here"] : List Str) [] := F__law_same.bindsN fun _ _ _ _ _ _ us hl => match us, hl with | [_, _], _ => rfl
  refine ⟨fd__law_same, F__law_same, fun n => ?_, B__law_same⟩
  induction n with
  | zero => exact fnG_bad
  | succ n O__law_same =>
    refine fn_okX (k := 1 + n) F__law_same sc__law_same rfl rfl (fun cdv A outer s H E M0 hr tk po => ?_)
    exact (ss_cons (ss_if (st_val (se_isTy2 (n := "tuple") (m := "list") (by decide) (by decide) (pe_callB call_isiT rfl fc.b_isinstance boot_isinstance (pa_cons (sv 1) (pa_cons (pe_tup (pa_cons (pe_bltn (v := .ty "tuple") rfl fc.b_tuple boot_tuple rfl) (pa_cons (pe_bltn (v := .ty "list") rfl fc.b_list boot_list rfl) pa_nil))) pa_nil)))) (fun _ => rfl)) (ss_cons (ss_if (st_w (sw_or (st_cmp (op_neD (hu64 hr)) opb_ne (se_isTy (n := "tuple") (by decide) (pe_callB call_isi rfl fc.b_isinstance boot_isinstance (pa_cons (sv 0) (pa_cons (pe_bltn (v := .ty "tuple") rfl fc.b_tuple boot_tuple rfl) pa_nil)))) (se_isTy (n := "tuple") (by decide) (pe_callB call_isi rfl fc.b_isinstance boot_isinstance (pa_cons (sv 1) (pa_cons (pe_bltn (v := .ty "tuple") rfl fc.b_tuple boot_tuple rfl) pa_nil)))) (nomark _)) (sw_or1 (st_not (st_val (se_isTy2 (n := "tuple") (m := "list") (by decide) (by decide) (pe_callB call_isiT rfl fc.b_isinstance boot_isinstance (pa_cons (sv 0) (pa_cons (pe_tup (pa_cons (pe_bltn (v := .ty "tuple") rfl fc.b_tuple boot_tuple rfl) (pa_cons (pe_bltn (v := .ty "list") rfl fc.b_list boot_list rfl) pa_nil))) pa_nil)))) (fun _ => rfl)))))) (ss_one (ss_ret se_bl)) ss_nil)
    (ss_one (ss_ret (se_and (se_cmp (op_eqD (hu64 hr)) opb_eq (se_l1 l1_len (pe_callB call_len_seq rfl fc.b_len boot_len (pa_cons (sl_e (sv 0)) pa_nil))) (se_l1 l1_len (pe_callB call_len_seq rfl fc.b_len boot_len (pa_cons (sl_e (sv 1)) pa_nil))) (nomark _)) (se_one (se_l1 l1_all (pe_callB (cr_all rfl) rfl fc.b_all boot_all (pa_cons (sl_e (se_frz (sn_lcT (g_tup (gs_cons g_name (gs_cons g_name gs_nil))) (gs_in rfl) (pe_lc (own := [("_law_one", 2), ("_law_two", 3)]) rfl nd (si_zip (RZ.pi_zipA rfl fc.b_zip (pa_cons (sv 0) (pa_cons (sv 1) pa_nil)))) (blkOk_by (N := ["_law_told_here", "_law_due_here", "_law_one", "_law_two"]) (sc := defScope (top 30)) (by decide +kernel)) (fun _ _ _ _ _ => (pg_tup rfl (pgs_cons (pg_name (i := 2) nd rfl (by first | exact Or.inl rfl | exact Or.inr rfl)) (pgs_cons (pg_name (i := 3) nd rfl (by first | exact Or.inl rfl | exact Or.inr rfl)) pgs_nil)))) (fun _ _ _ _ _ => pts_y) (fun _ _ _ _ _ => (sx_call (O__law_same.mono (by omega)) hr rfl fc.g__law_same F__law_same.kp B__law_same takes_none5 (sa_cons (sv 2) (sa_cons (sv 3) sa_nil)))))))) pa_nil)))))))) ss_nil)
    (ss_one (ss_ret (se_and (se_cmp (op_eqD (hu64 hr)) opb_eq (se_isTy (n := "bool") (by decide) (pe_callB call_isi rfl fc.b_isinstance boot_isinstance (pa_cons (sv 0) (pa_cons (pe_bltn (v := .ty "bool") rfl fc.b_bool boot_bool rfl) pa_nil)))) (se_isTy (n := "bool") (by decide) (pe_callB call_isi rfl fc.b_isinstance boot_isinstance (pa_cons (sv 1) (pa_cons (pe_bltn (v := .ty "bool") rfl fc.b_bool boot_bool rfl) pa_nil)))) (nomark _)) (se_one (se_cmp (op_eqD (hu64 hr)) opb_eq (sv 0) (sv 1) (nomark _)))))))
theorem ok__law_same (fc : Fc K mg) (tx : Tx tl K mg base) : ∃ fd, FunD K "_law_same" "_law_same" (defArgs (top 30)) (defBody (top 30)) (defScope (top 30)) [] [] (He.fAd K ("_law_same", none)) fd ∧ FnG P w K mg base (L2.CX P w) 5 (He.fAd K ("_law_same", none)) fd (["_law_told_here", "_law_due_here"] : List Str) (spD (gk K mg) m__law_same) ∧ Binds K fd (["_law_told_here", "_law_due_here"] : List Str) [] := by
  obtain ⟨fd, F, O, B⟩ := okn__law_same (P := P) (w := w) (base := base) fc tx
  exact ⟨fd, F, O 4, B⟩
theorem sc__law_told : FnScope ["_law_bottom", "_law_rows_here", "_law_found", "e"] (["_law_bottom", "_law_rows_here"] : List Str) (defScope (top 40)) := ⟨rfl, rfl, rfl, by decide +kernel, rfl, by decide +kernel, by decide +kernel⟩
theorem ok__law_told (fc : Fc K mg) (tx : Tx tl K mg base) : ∃ fd, FunD K "_law_told" "_law_told" (defArgs (top 40)) (defBody (top 40)) (defScope (top 40)) [] [] (He.fAd K ("_law_told", none)) fd ∧ FnG P w K mg base (L2.CX P w) 6 (He.fAd K ("_law_told", none)) fd (["_law_bottom", "_law_rows_here"] : List Str) (spD (gk K mg) m__law_told) ∧ Binds K fd (["_law_bottom", "_law_rows_here"] : List Str) [] := by
  obtain ⟨fd_Buckets_init, F_Buckets_init, O_Buckets_init, B_Buckets_init⟩ := ok_Buckets_init (P := P) (w := w) (base := base) fc tx
  obtain ⟨fd, F⟩ := fc.f__law_told
  have nd : (["_law_bottom", "_law_rows_here", "_law_found", "e"] : List Str).Nodup := sc__law_told.nd
  refine ⟨fd, F, fn_okX (k := 5) F sc__law_told rfl rfl (fun cdv A outer s H E M0 hr tk po => ?_), F.bindsN fun _ _ _ _ _ _ us hl => match us, hl with | [_, _], _ => rfl⟩
  exact (ss_cons (ss_set (i := 2) nd rfl (by first | exact Or.inl rfl | exact Or.inr rfl) (se_tup (sa_cons se_str (sa_cons se_non sa_nil))) (.inl rfl))
    (ss_cons (ss_try rfl rfl nd tk (fun _ _ _ tk1 po1 => (ss_one (ss_set (i := 2) nd rfl (by first | exact Or.inl rfl | exact Or.inr rfl) (se_tup (sa_cons se_non (sa_cons (sx_make fc.g_Buckets fc.k_Buckets O_Buckets_init (hr.mono (by decide)) rfl B_Buckets_init tk1 (sa_cons (sv 0) (sa_cons (sv 1) sa_nil))) sa_nil))) (.inl rfl)))) (.named (i := 3) rfl rfl ⟨rfl, by decide, .inl fc.g_BadBuckets⟩ (ex_cons fc.g_BadBuckets fc.e_BadBuckets_BadBuckets ex_nil) (ex_cons fc.g_NoLine fc.e_NoLine_BadBuckets (ex_cons fc.g_NoNumber fc.e_NoNumber_BadBuckets (ex_cons fc.g_NoStream fc.e_NoStream_BadBuckets ex_nil))) (fun _ _ _ => (ss_one (ss_set (i := 2) nd rfl (by first | exact Or.inl rfl | exact Or.inr rfl) (se_tup (sa_cons (se_excF (i := 3) rfl (by first | exact Or.inl rfl | exact Or.inr (Or.inl rfl) | exact Or.inr (Or.inr rfl)) (ex_cons fc.g_BadBuckets fc.xf_BadBuckets_part ex_nil)) (sa_cons se_non sa_nil))) (.inl rfl)))) .nil))
    (ss_one (ss_ret (sv 2)))))
theorem sc__law_judged_right : FnScope ["_law_hand_here", "_law_bottom", "_law_rows_here", "_law_odd", "_law_some", "_law_part", "_law_told_here"] (["_law_hand_here", "_law_bottom", "_law_rows_here"] : List Str) (defScope (top 42)) := ⟨rfl, rfl, rfl, by decide +kernel, rfl, by decide +kernel, by decide +kernel⟩
theorem ok__law_judged_right (fc : Fc K mg) (tx : Tx tl K mg base) : ∃ fd, FunD K "_law_judged_right" "_law_judged_right" (defArgs (top 42)) (defBody (top 42)) (defScope (top 42)) [] [] (He.fAd K ("_law_judged_right", none)) fd ∧ FnG P w K mg base (L2.CX P w) 7 (He.fAd K ("_law_judged_right", none)) fd (["_law_hand_here", "_law_bottom", "_law_rows_here"] : List Str) (spD (gk K mg) m__law_judged_right) ∧ Binds K fd (["_law_hand_here", "_law_bottom", "_law_rows_here"] : List Str) [] := by
  obtain ⟨fd__law_deep, F__law_deep, O__law_deep, B__law_deep⟩ := ok__law_deep (P := P) (w := w) (base := base) fc tx
  obtain ⟨fd__law_due, F__law_due, O__law_due, B__law_due⟩ := ok__law_due (P := P) (w := w) (base := base) fc tx
  obtain ⟨fd__law_odd_rows, F__law_odd_rows, O__law_odd_rows, B__law_odd_rows⟩ := ok__law_odd_rows (P := P) (w := w) (base := base) fc tx
  obtain ⟨fd__law_pick, F__law_pick, O__law_pick, B__law_pick⟩ := ok__law_pick (P := P) (w := w) (base := base) fc tx
  obtain ⟨fd__law_same, F__law_same, O__law_same, B__law_same⟩ := ok__law_same (P := P) (w := w) (base := base) fc tx
  obtain ⟨fd__law_told, F__law_told, O__law_told, B__law_told⟩ := ok__law_told (P := P) (w := w) (base := base) fc tx
  obtain ⟨fd, F⟩ := fc.f__law_judged_right
  have nd : (["_law_hand_here", "_law_bottom", "_law_rows_here", "_law_odd", "_law_some", "_law_part", "_law_told_here"] : List Str).Nodup := sc__law_judged_right.nd
  refine ⟨fd, F, fn_okX (k := 6) F sc__law_judged_right rfl rfl (fun cdv A outer s H E M0 hr tk po => ?_), F.bindsN fun _ _ _ _ _ _ us hl => match us, hl with | [_, _, _], _ => rfl⟩
  exact (ss_cons (ss_set (i := 3) nd rfl (by first | exact Or.inl rfl | exact Or.inr rfl) (sx_call (O__law_pick.mono (by decide)) hr rfl fc.g__law_pick F__law_pick.kp B__law_pick tk (sa_cons (sv 0) (sa_cons (se_frz (sn_lst (sa_cons (sv 1) (sa_cons (sv 1) (sa_cons se_int (sa_cons se_int (sa_cons (se_neg se_int) (sa_cons se_bl (sa_cons se_non (sa_cons se_str (sa_cons (se_tup (sa_cons se_int sa_nil)) (sa_cons (sx_call (O__law_deep.mono (by decide)) hr rfl fc.g__law_deep F__law_deep.kp B__law_deep tk (sa_cons (sv 0) sa_nil)) sa_nil)))))))))))) sa_nil))) (.inl rfl))
    (ss_cons (ss_set (i := 4) nd rfl (by first | exact Or.inl rfl | exact Or.inr rfl) (sx_call (O__law_odd_rows.mono (by decide)) hr rfl fc.g__law_odd_rows F__law_odd_rows.kp B__law_odd_rows tk (sa_cons (sv 0) (sa_cons (sv 1) (sa_cons (sv 2) sa_nil)))) (.inl rfl))
    (ss_cons (ss_asg (g := (gTup _ 2 (gCons (gName 5) (gCons (gName 6) gNil)))) (is := ([5] ++ ([6] ++ []))) (sx_call (O__law_told.mono (by decide)) hr rfl fc.g__law_told F__law_told.kp B__law_told tk (sa_cons (sv 3) (sa_cons (sv 4) sa_nil))) (pg_tup rfl (pgs_cons (pg_name (i := 5) nd rfl (by first | exact Or.inl rfl | exact Or.inr rfl)) (pgs_cons (pg_name (i := 6) nd rfl (by first | exact Or.inl rfl | exact Or.inr rfl)) pgs_nil))) (g_tup (gs_cons g_name (gs_cons g_name gs_nil))))
    (ss_cons (ss_if (st_not (st_val (sx_call (O__law_same.mono (by decide)) hr rfl fc.g__law_same F__law_same.kp B__law_same tk (sa_cons (sv 5) (sa_cons (sx_call (O__law_due.mono (by decide)) hr rfl fc.g__law_due F__law_due.kp B__law_due tk (sa_cons (sv 3) (sa_cons (sv 4) sa_nil))) sa_nil))) (fun _ => rfl))) (ss_one (ss_ret se_bl)) ss_nil)
    (ss_one (ss_ret (se_or (se_notN (sv 5)) (se_one (sx_call (O__law_same.mono (by decide)) hr rfl fc.g__law_same F__law_same.kp B__law_same tk (sa_cons (se_frz (sn_lst (sa_cons (se_fld (cs := ["Buckets"]) (by intro c hc; simp only [List.mem_cons, List.not_mem_nil, or_false] at hc; subst hc; exact fld_of fc.g_Buckets fc.c_Buckets fc.n_Buckets_bottom) (sv 6) rfl) (sa_cons (se_fld (cs := ["Buckets"]) (by intro c hc; simp only [List.mem_cons, List.not_mem_nil, or_false] at hc; subst hc; exact fld_of fc.g_Buckets fc.c_Buckets fc.n_Buckets_rows) (sv 6) rfl) sa_nil)))) (sa_cons (se_frz (sn_lst (sa_cons (sv 3) (sa_cons (sv 4) sa_nil)))) sa_nil)))))))))))
theorem sc_Sent_init : FnScope ["self", "bottom", "row"] (["self", "bottom", "row"] : List Str) (defScope (inClass (top 23) 0)) := ⟨rfl, rfl, rfl, by decide +kernel, rfl, by decide +kernel, by decide +kernel⟩
theorem ok_Sent_init (fc : Fc K mg) (tx : Tx tl K mg base) : ∃ fd, FunD K "__init__" "Sent.__init__" (defArgs (inClass (top 23) 0)) (defBody (inClass (top 23) 0)) (defScope (inClass (top 23) 0)) [] [] (He.fAd K ("Sent", some "__init__")) fd ∧ FnG P w K mg base (L2.CX P w) 1 (He.fAd K ("Sent", some "__init__")) fd (["self", "bottom", "row"] : List Str) (spD (gk K mg) m_Sent_init) ∧ Binds K fd (["self", "bottom", "row"] : List Str) [] := by
  obtain ⟨fd, F⟩ := fc.f_Sent_init
  have nd : (["self", "bottom", "row"] : List Str).Nodup := sc_Sent_init.nd
  refine ⟨fd, F, fn_okX (k := 0) F sc_Sent_init rfl rfl (fun cdv A outer s H E M0 hr tk po => ?_), F.bindsN fun _ _ _ _ _ _ us hl => match us, hl with | [_, _, _], _ => rfl⟩
  exact (ss_cons (ss_fld (cs := ["Sent"]) (by intro c hc; simp only [List.mem_cons, List.not_mem_nil, or_false] at hc; subst hc; exact fld_of fc.g_Sent fc.c_Sent fc.n_Sent_kept_bottom) (ps_fld (sv 0) (sv 1) rfl))
    (ss_cons (ss_fld (cs := ["Sent"]) (by intro c hc; simp only [List.mem_cons, List.not_mem_nil, or_false] at hc; subst hc; exact fld_of fc.g_Sent fc.c_Sent fc.n_Sent_kept_row) (ps_fld (sv 0) (sv 2) rfl))
    (ss_cons (ss_fld (cs := ["Sent"]) (by intro c hc; simp only [List.mem_cons, List.not_mem_nil, or_false] at hc; subst hc; exact fld_of fc.g_Sent fc.c_Sent fc.n_Sent_kept_levels) (ps_fld (sv 0) (se_new (sn_lst (sa_cons se_int sa_nil))) rfl))
    (ss_one (ss_fld (cs := ["Sent"]) (by intro c hc; simp only [List.mem_cons, List.not_mem_nil, or_false] at hc; subst hc; exact fld_of fc.g_Sent fc.c_Sent fc.n_Sent_kept_least) (ps_fld (sv 0) se_int rfl))))))
theorem sc_Sent_take : FnScope ["self", "sends", "step", "level", "bound", "elder", "at", "one"] (["self", "sends"] : List Str) (defScope (inClass (top 23) 1)) := ⟨rfl, rfl, rfl, by decide +kernel, rfl, by decide +kernel, by decide +kernel⟩
theorem ok_Sent_take (fc : Fc K mg) (tx : Tx tl K mg base) : ∃ fd, FunD K "take" "Sent.take" (defArgs (inClass (top 23) 1)) (defBody (inClass (top 23) 1)) (defScope (inClass (top 23) 1)) [] [] (He.fAd K ("Sent", some "take")) fd ∧ FnG P w K mg base (L2.CX P w) 1 (He.fAd K ("Sent", some "take")) fd (["self", "sends"] : List Str) (spD (gk K mg) m_Sent_take) ∧ Binds K fd (["self", "sends"] : List Str) [] := by
  obtain ⟨fd, F⟩ := fc.f_Sent_take
  have nd : (["self", "sends", "step", "level", "bound", "elder", "at", "one"] : List Str).Nodup := sc_Sent_take.nd
  refine ⟨fd, F, fn_okX (k := 0) F sc_Sent_take rfl rfl (fun cdv A outer s H E M0 hr tk po => ?_), F.bindsN fun _ _ _ _ _ _ us hl => match us, hl with | [_, _], _ => rfl⟩
  exact (ss_cons (ss_if (st_isN (se_fld (cs := ["Sent"]) (by intro c hc; simp only [List.mem_cons, List.not_mem_nil, or_false] at hc; subst hc; exact fld_of fc.g_Sent fc.c_Sent fc.n_Sent_kept_row) (sv 0) rfl)) (ss_cons (ss_drop (se_appR (pe_bm PySem.F.plainAttrs_list PySem.F.slot_list_append PySem.F.type_list_append mt_append (se_fld (cs := ["Sent"]) (by intro c hc; simp only [List.mem_cons, List.not_mem_nil, or_false] at hc; subst hc; exact fld_of fc.g_Sent fc.c_Sent fc.n_Sent_kept_levels) (sv 0) rfl) (pa_cons se_int pa_nil))))
    (ss_one (ss_ret (se_if (st_val (sv 1) (fun _ => rfl)) (se_op op_sub ops_sub (se_l1 l1_len (pe_callB call_len_seq rfl fc.b_len boot_len (pa_cons (sl_e (se_fld (cs := ["Sent"]) (by intro c hc; simp only [List.mem_cons, List.not_mem_nil, or_false] at hc; subst hc; exact fld_of fc.g_Sent fc.c_Sent fc.n_Sent_kept_levels) (sv 0) rfl)) pa_nil))) se_int) se_non)))) ss_nil)
    (ss_cons (ss_set (i := 2) nd rfl (by first | exact Or.inl rfl | exact Or.inr rfl) (se_if (st_val (sv 1) (fun _ => rfl)) (se_fld (cs := ["Sent"]) (by intro c hc; simp only [List.mem_cons, List.not_mem_nil, or_false] at hc; subst hc; exact fld_of fc.g_Sent fc.c_Sent fc.n_Sent_kept_bottom) (sv 0) rfl) se_int) (.inl rfl))
    (ss_cons (ss_set (i := 3) nd rfl (by first | exact Or.inl rfl | exact Or.inr rfl) (se_op op_sub ops_sub (se_op op_addA ops_add (se_ix (sl_e (se_fld (cs := ["Sent"]) (by intro c hc; simp only [List.mem_cons, List.not_mem_nil, or_false] at hc; subst hc; exact fld_of fc.g_Sent fc.c_Sent fc.n_Sent_kept_levels) (sv 0) rfl)) (se_neg se_int) (fun _ _ => rfl)) (sv 2)) (se_ix (sl_e (se_fld (cs := ["Sent"]) (by intro c hc; simp only [List.mem_cons, List.not_mem_nil, or_false] at hc; subst hc; exact fld_of fc.g_Sent fc.c_Sent fc.n_Sent_kept_row) (sv 0) rfl)) se_int (fun _ _ => rfl))) (.inl rfl))
    (ss_cons (ss_drop (se_appR (pe_bm PySem.F.plainAttrs_list PySem.F.slot_list_append PySem.F.type_list_append mt_append (se_fld (cs := ["Sent"]) (by intro c hc; simp only [List.mem_cons, List.not_mem_nil, or_false] at hc; subst hc; exact fld_of fc.g_Sent fc.c_Sent fc.n_Sent_kept_levels) (sv 0) rfl) (pa_cons (sv 3) pa_nil))))
    (ss_cons (ss_set (i := 4) nd rfl (by first | exact Or.inl rfl | exact Or.inr rfl) (se_op op_sub ops_sub (sv 3) (se_op op_mulA ops_mul (se_fld (cs := ["Sent"]) (by intro c hc; simp only [List.mem_cons, List.not_mem_nil, or_false] at hc; subst hc; exact fld_of fc.g_Sent fc.c_Sent fc.n_Sent_kept_bottom) (sv 0) rfl) (se_ix (sl_e (se_fld (cs := ["Sent"]) (by intro c hc; simp only [List.mem_cons, List.not_mem_nil, or_false] at hc; subst hc; exact fld_of fc.g_Sent fc.c_Sent fc.n_Sent_kept_row) (sv 0) rfl)) se_int (fun _ _ => rfl)))) (.inl rfl))
    (ss_cons (ss_asgFld (g1 := (gName 5)) (is := [5]) (cs := ["Sent"]) (by intro c hc; simp only [List.mem_cons, List.not_mem_nil, or_false] at hc; subst hc; exact fld_of fc.g_Sent fc.c_Sent fc.n_Sent_kept_least) (se_tup (sa_cons (se_fld (cs := ["Sent"]) (by intro c hc; simp only [List.mem_cons, List.not_mem_nil, or_false] at hc; subst hc; exact fld_of fc.g_Sent fc.c_Sent fc.n_Sent_kept_least) (sv 0) rfl) (sa_cons (se_min2 (pe_callB (call_min2 rfl) rfl fc.b_min boot_min (pa_cons (se_fld (cs := ["Sent"]) (by intro c hc; simp only [List.mem_cons, List.not_mem_nil, or_false] at hc; subst hc; exact fld_of fc.g_Sent fc.c_Sent fc.n_Sent_kept_least) (sv 0) rfl) (pa_cons (sv 3) pa_nil)))) sa_nil))) (pg_tup rfl (pgs_cons (pg_name (i := 5) nd rfl (by first | exact Or.inl rfl | exact Or.inr rfl)) (pgs_cons (pg_fld (sv 0)) pgs_nil))) g_name)
    (ss_cons (ss_if (st_cmp op_ge (opb_int iGe) (sv 5) (sv 4) (nomark _)) (ss_one (ss_ret se_non)) ss_nil)
    (ss_one (ss_ret (se_l1 l1_max (pe_callB (cr_max rfl) rfl fc.b_max boot_max (pa_cons (sl_e (se_frz (sn_lcT (g_tup (gs_cons g_name (gs_cons g_name gs_nil))) (gs_in rfl) (pe_lc (own := [("at", 6), ("one", 7)]) rfl nd (si_enumA (pi_enumA rfl fc.b_enumerate (pa_cons (se_fld (cs := ["Sent"]) (by intro c hc; simp only [List.mem_cons, List.not_mem_nil, or_false] at hc; subst hc; exact fld_of fc.g_Sent fc.c_Sent fc.n_Sent_kept_levels) (sv 0) rfl) pa_nil))) (blkOk_by (N := ["self", "sends", "step", "level", "bound", "elder", "at", "one"]) (sc := defScope (inClass (top 23) 1)) (by decide +kernel)) (fun _ _ _ _ _ => (pg_tup rfl (pgs_cons (pg_name (i := 6) nd rfl (by first | exact Or.inl rfl | exact Or.inr rfl)) (pgs_cons (pg_name (i := 7) nd rfl (by first | exact Or.inl rfl | exact Or.inr rfl)) pgs_nil)))) (fun _ _ _ _ _ => (pts_one (st_cmp op_lt (opb_int iLt) (sv 7) (sv 4) (nomark _)))) (fun _ _ _ _ _ => (sv 6)))))) pa_nil))))))))))))
theorem sc_breach_of : FnScope ["buckets", "stream", "told", "row", "beat", "lot", "line", "sent", "start"] (["buckets", "stream"] : List Str) (defScope (top 24)) := ⟨rfl, rfl, rfl, by decide +kernel, rfl, by decide +kernel, by decide +kernel⟩
theorem ok_breach_of (fc : Fc K mg) (tx : Tx tl K mg base) : ∃ fd, FunD K "breach_of" "breach_of" (defArgs (top 24)) (defBody (top 24)) (defScope (top 24)) [] [] (He.fAd K ("breach_of", none)) fd ∧ FnG P w K mg base (L2.CX P w) 3 (He.fAd K ("breach_of", none)) fd (["buckets", "stream"] : List Str) (spD (gk K mg) m_breach_of) ∧ Binds K fd (["buckets", "stream"] : List Str) [] := by
  obtain ⟨fd_Sent_init, F_Sent_init, O_Sent_init, B_Sent_init⟩ := ok_Sent_init (P := P) (w := w) (base := base) fc tx
  obtain ⟨fd_Sent_take, F_Sent_take, O_Sent_take, B_Sent_take⟩ := ok_Sent_take (P := P) (w := w) (base := base) fc tx
  obtain ⟨fd, F⟩ := fc.f_breach_of
  have nd : (["buckets", "stream", "told", "row", "beat", "lot", "line", "sent", "start"] : List Str).Nodup := sc_breach_of.nd
  refine ⟨fd, F, fn_okX (k := 2) F sc_breach_of rfl rfl (fun cdv A outer s H E M0 hr tk po => ?_), F.bindsN fun _ _ _ _ _ _ us hl => match us, hl with | [_, _], _ => rfl⟩
  exact (ss_cons (ss_lcFT g_name (gs_in rfl) (ps_setLc (i := 2) (own := [("row", 3)]) rfl nd rfl rfl (sw_true rfl rfl rfl (by decide +kernel)) (si_seq (se_fld (cs := ["Buckets"]) (by intro c hc; simp only [List.mem_cons, List.not_mem_nil, or_false] at hc; subst hc; exact fld_of fc.g_Buckets fc.c_Buckets fc.n_Buckets_rows) (sv 0) rfl)) (blkOk_by (N := ["buckets", "stream", "told", "row", "beat", "lot", "line", "sent", "start"]) (sc := defScope (top 24)) (by decide +kernel)) (fun _ _ _ _ _ => (pg_name (i := 3) nd rfl (by first | exact Or.inl rfl | exact Or.inr rfl))) (fun _ _ _ _ _ => pts_y) (fun _ _ _ _ _ => (sx_make fc.g_Sent fc.k_Sent O_Sent_init (hr.mono (by decide)) rfl B_Sent_init takes_none5 (sa_cons (se_fld (cs := ["Buckets"]) (by intro c hc; simp only [List.mem_cons, List.not_mem_nil, or_false] at hc; subst hc; exact fld_of fc.g_Buckets fc.c_Buckets fc.n_Buckets_bottom) (sv 0) rfl) (sa_cons (sv 3) sa_nil)))) ))
    (ss_cons (ss_for (g := (gTup _ 2 (gCons (gName 4) (gCons (gName 5) gNil)))) (is := ([4] ++ ([5] ++ []))) po rfl (si_enumA (pi_enumA rfl fc.b_enumerate (pa_cons (sv 1) pa_nil))) (pg_tup rfl (pgs_cons (pg_name (i := 4) nd rfl (by first | exact Or.inl rfl | exact Or.inr rfl)) (pgs_cons (pg_name (i := 5) nd rfl (by first | exact Or.inl rfl | exact Or.inr rfl)) pgs_nil))) (g_tup (gs_cons g_name (gs_cons g_name gs_nil))) (ss_one (ss_for (g := (gTup _ 2 (gCons (gName 6) (gCons (gName 7) gNil)))) (is := ([6] ++ ([7] ++ []))) po rfl (si_enumA (pi_enumA rfl fc.b_enumerate (pa_cons (sv 2) pa_nil))) (pg_tup rfl (pgs_cons (pg_name (i := 6) nd rfl (by first | exact Or.inl rfl | exact Or.inr rfl)) (pgs_cons (pg_name (i := 7) nd rfl (by first | exact Or.inl rfl | exact Or.inr rfl)) pgs_nil))) (g_tup (gs_cons g_name (gs_cons g_name gs_nil))) (ss_cons (ss_set (i := 8) nd rfl (by first | exact Or.inl rfl | exact Or.inr rfl) (sx_meth fc.g_Sent (sv 7) fc.c_Sent fc.m_Sent_take (O_Sent_take.mono (by decide)) hr B_Sent_take tk (sa_cons (se_in (op_inA (hu65 hr)) (sv 6) (sl_e (sv 5)) (by with_unfolding_all rfl)) sa_nil)) (.inl rfl))
    (ss_one (ss_if (st_notN (sv 8)) (ss_one (ss_ret (se_tup (sa_cons (sv 6) (sa_cons (sv 8) (sa_cons (sv 4) sa_nil)))))) ss_nil))))))
    (ss_one (ss_ret se_non))))
theorem sc_is_lot : FnScope ["thing", "many", "last", "number"] (["thing", "many"] : List Str) (defScope (top 3)) := ⟨rfl, rfl, rfl, by decide +kernel, rfl, by decide +kernel, by decide +kernel⟩
theorem ok_is_lot (fc : Fc K mg) (tx : Tx tl K mg base) : ∃ fd, FunD K "is_lot" "is_lot" (defArgs (top 3)) (defBody (top 3)) (defScope (top 3)) [] [] (He.fAd K ("is_lot", none)) fd ∧ FnG P w K mg base (L2.CX P w) 3 (He.fAd K ("is_lot", none)) fd (["thing", "many"] : List Str) (spD (gk K mg) m_is_lot) ∧ Binds K fd (["thing", "many"] : List Str) [] := by
  obtain ⟨fd_is_within, F_is_within, O_is_within, B_is_within⟩ := ok_is_within (P := P) (w := w) (base := base) fc tx
  obtain ⟨fd, F⟩ := fc.f_is_lot
  have nd : (["thing", "many", "last", "number"] : List Str).Nodup := sc_is_lot.nd
  refine ⟨fd, F, fn_okX (k := 2) F sc_is_lot rfl rfl (fun cdv A outer s H E M0 hr tk po => ?_), F.bindsN fun _ _ _ _ _ _ us hl => match us, hl with | [_, _], _ => rfl⟩
  exact (ss_cons (ss_if (st_not (st_val (se_isTy (n := "tuple") (by decide) (pe_callB call_isi rfl fc.b_isinstance boot_isinstance (pa_cons (sv 0) (pa_cons (pe_bltn (v := .ty "tuple") rfl fc.b_tuple boot_tuple rfl) pa_nil)))) (fun _ => rfl))) (ss_one (ss_ret se_bl)) ss_nil)
    (ss_cons (ss_set (i := 2) nd rfl (by first | exact Or.inl rfl | exact Or.inr rfl) (se_neg se_int) (.inl rfl))
    (ss_cons (ss_for (g := (gName 3)) (is := [3]) po rfl (si_seq (sv 0)) (pg_name (i := 3) nd rfl (by first | exact Or.inl rfl | exact Or.inr rfl)) g_name (ss_cons (ss_if (st_not (st_val (sx_call (O_is_within.mono (by decide)) hr rfl fc.g_is_within F_is_within.kp B_is_within tk (sa_cons (sv 3) (sa_cons (se_op op_addA ops_add (sv 2) se_int) (sa_cons (se_op op_sub ops_sub (sv 1) se_int) sa_nil)))) (fun _ => rfl))) (ss_one (ss_ret se_bl)) ss_nil)
    (ss_one (ss_set (i := 2) nd rfl (by first | exact Or.inl rfl | exact Or.inr rfl) (sv 3) (.inl rfl)))))
    (ss_one (ss_ret se_bl)))))
theorem sc_check_stream : FnScope ["buckets", "stream", "lot"] (["buckets", "stream"] : List Str) (defScope (top 22)) := ⟨rfl, rfl, rfl, by decide +kernel, rfl, by decide +kernel, by decide +kernel⟩
theorem ok_check_stream (fc : Fc K mg) (tx : Tx tl K mg base) : ∃ fd, FunD K "check_stream" "check_stream" (defArgs (top 22)) (defBody (top 22)) (defScope (top 22)) [] [] (He.fAd K ("check_stream", none)) fd ∧ FnG P w K mg base (L2.CX P w) 4 (He.fAd K ("check_stream", none)) fd (["buckets", "stream"] : List Str) (spD (gk K mg) m_check_stream) ∧ Binds K fd (["buckets", "stream"] : List Str) [] := by
  obtain ⟨fd_is_lot, F_is_lot, O_is_lot, B_is_lot⟩ := ok_is_lot (P := P) (w := w) (base := base) fc tx
  obtain ⟨t_MOST_BEATS, i_MOST_BEATS⟩ := fc.j_MOST_BEATS
  obtain ⟨fd, F⟩ := fc.f_check_stream
  have nd : (["buckets", "stream", "lot"] : List Str).Nodup := sc_check_stream.nd
  refine ⟨fd, F, fn_okX (k := 3) F sc_check_stream rfl rfl (fun cdv A outer s H E M0 hr tk po => ?_), F.bindsN fun _ _ _ _ _ _ us hl => match us, hl with | [_, _], _ => rfl⟩
  exact (ss_cons (ss_if (st_w (sw_or (st_not (st_val (se_isTy (n := "tuple") (by decide) (pe_callB call_isi rfl fc.b_isinstance boot_isinstance (pa_cons (sv 1) (pa_cons (pe_bltn (v := .ty "tuple") rfl fc.b_tuple boot_tuple rfl) pa_nil)))) (fun _ => rfl))) (sw_or1 (st_cmp op_gt (opb_int iGt) (se_l1 l1_len (pe_callB call_len_seq rfl fc.b_len boot_len (pa_cons (sl_e (sv 1)) pa_nil))) (se_gint rfl i_MOST_BEATS) (nomark _))))) (ss_one (ss_raise rfl tk fc.x_NoStream fc.g_NoStream rfl)) ss_nil)
    (ss_one (ss_if (st_not (st_val (se_l1 l1_all (pe_callB (cr_all rfl) rfl fc.b_all boot_all (pa_cons (sl_e (se_frz (sn_lcT g_name (gs_in rfl) (pe_lc (own := [("lot", 2)]) rfl nd (si_seq (sv 1)) (blkOk_by (N := ["buckets", "stream", "lot"]) (sc := defScope (top 22)) (by decide +kernel)) (fun _ _ _ _ _ => (pg_name (i := 2) nd rfl (by first | exact Or.inl rfl | exact Or.inr rfl))) (fun _ _ _ _ _ => pts_y) (fun _ _ _ _ _ => (sx_call (O_is_lot.mono (by decide)) hr rfl fc.g_is_lot F_is_lot.kp B_is_lot takes_none5 (sa_cons (sv 2) (sa_cons (se_l1 l1_len (pe_callB call_len_seq rfl fc.b_len boot_len (pa_cons (sl_e (se_fld (cs := ["Buckets"]) (by intro c hc; simp only [List.mem_cons, List.not_mem_nil, or_false] at hc; subst hc; exact fld_of fc.g_Buckets fc.c_Buckets fc.n_Buckets_rows) (sv 0) rfl)) pa_nil))) sa_nil)))))))) pa_nil))) (fun _ => rfl))) (ss_one (ss_raise rfl tk fc.x_NoStream fc.g_NoStream rfl)) ss_nil)))
theorem sc_breach : FnScope ["buckets", "stream"] (["buckets", "stream"] : List Str) (defScope (top 25)) := ⟨rfl, rfl, rfl, by decide +kernel, rfl, by decide +kernel, by decide +kernel⟩
theorem ok_breach (fc : Fc K mg) (tx : Tx tl K mg base) : ∃ fd, FunD K "breach" "breach" (defArgs (top 25)) (defBody (top 25)) (defScope (top 25)) [] [] (He.fAd K ("breach", none)) fd ∧ FnG P w K mg base (L2.CX P w) 5 (He.fAd K ("breach", none)) fd (["buckets", "stream"] : List Str) (spD (gk K mg) m_breach) ∧ Binds K fd (["buckets", "stream"] : List Str) [] := by
  obtain ⟨fd_breach_of, F_breach_of, O_breach_of, B_breach_of⟩ := ok_breach_of (P := P) (w := w) (base := base) fc tx
  obtain ⟨fd_check_stream, F_check_stream, O_check_stream, B_check_stream⟩ := ok_check_stream (P := P) (w := w) (base := base) fc tx
  obtain ⟨fd, F⟩ := fc.f_breach
  have nd : (["buckets", "stream"] : List Str).Nodup := sc_breach.nd
  refine ⟨fd, F, fn_okX (k := 4) F sc_breach rfl rfl (fun cdv A outer s H E M0 hr tk po => ?_), F.bindsN fun _ _ _ _ _ _ us hl => match us, hl with | [_, _], _ => rfl⟩
  exact (ss_cons (ss_drop (sx_call (O_check_stream.mono (by decide)) hr rfl fc.g_check_stream F_check_stream.kp B_check_stream tk (sa_cons (sv 0) (sa_cons (sv 1) sa_nil))))
    (ss_one (ss_ret (sx_call (O_breach_of.mono (by decide)) hr rfl fc.g_breach_of F_breach_of.kp B_breach_of tk (sa_cons (sv 0) (sa_cons (sv 1) sa_nil))))))
theorem sc__law_long_right : FnScope ["_law_hand_here", "_law_bottom", "_law_rows_here", "_law_beats", "_law_stream_here", "_law_beat", "_law_sends", "_law_rests"] (["_law_hand_here"] : List Str) (defScope (top 43)) := ⟨rfl, rfl, rfl, by decide +kernel, rfl, by decide +kernel, by decide +kernel⟩
theorem ok__law_long_right (fc : Fc K mg) (tx : Tx tl K mg base) : ∃ fd, FunD K "_law_long_right" "_law_long_right" (defArgs (top 43)) (defBody (top 43)) (defScope (top 43)) [] [] (He.fAd K ("_law_long_right", none)) fd ∧ FnG P w K mg base (L2.CX P w) 6 (He.fAd K ("_law_long_right", none)) fd (["_law_hand_here"] : List Str) (spD (gk K mg) m__law_long_right) ∧ Binds K fd (["_law_hand_here"] : List Str) [] := by
  obtain ⟨fd_Buckets_init, F_Buckets_init, O_Buckets_init, B_Buckets_init⟩ := ok_Buckets_init (P := P) (w := w) (base := base) fc tx
  obtain ⟨fd__law_breach, F__law_breach, O__law_breach, B__law_breach⟩ := ok__law_breach (P := P) (w := w) (base := base) fc tx
  obtain ⟨fd__law_draw, F__law_draw, O__law_draw, B__law_draw⟩ := ok__law_draw (P := P) (w := w) (base := base) fc tx
  obtain ⟨fd__law_pick, F__law_pick, O__law_pick, B__law_pick⟩ := ok__law_pick (P := P) (w := w) (base := base) fc tx
  obtain ⟨fd__law_same, F__law_same, O__law_same, B__law_same⟩ := ok__law_same (P := P) (w := w) (base := base) fc tx
  obtain ⟨fd__law_sent, F__law_sent, O__law_sent, B__law_sent⟩ := ok__law_sent (P := P) (w := w) (base := base) fc tx
  obtain ⟨fd_breach, F_breach, O_breach, B_breach⟩ := ok_breach (P := P) (w := w) (base := base) fc tx
  obtain ⟨fd, F⟩ := fc.f__law_long_right
  have nd : (["_law_hand_here", "_law_bottom", "_law_rows_here", "_law_beats", "_law_stream_here", "_law_beat", "_law_sends", "_law_rests"] : List Str).Nodup := sc__law_long_right.nd
  refine ⟨fd, F, fn_okX (k := 5) F sc__law_long_right rfl rfl (fun cdv A outer s H E M0 hr tk po => ?_), F.bindsN fun _ _ _ _ _ _ us hl => match us, hl with | [_], _ => rfl⟩
  exact (ss_cons (ss_set (i := 1) nd rfl (by first | exact Or.inl rfl | exact Or.inr rfl) (se_op op_addA ops_add se_int (sx_call (O__law_draw.mono (by decide)) hr rfl fc.g__law_draw F__law_draw.kp B__law_draw tk (sa_cons (sv 0) (sa_cons se_int sa_nil)))) (.inl rfl))
    (ss_cons (ss_set (i := 2) nd rfl (by first | exact Or.inl rfl | exact Or.inr rfl) (se_slice (sl_e (se_tup (sa_cons (se_tup (sa_cons (se_op op_addA ops_add se_int (sx_call (O__law_draw.mono (by decide)) hr rfl fc.g__law_draw F__law_draw.kp B__law_draw tk (sa_cons (sv 0) (sa_cons se_int sa_nil)))) (sa_cons (sx_call (O__law_draw.mono (by decide)) hr rfl fc.g__law_draw F__law_draw.kp B__law_draw tk (sa_cons (sv 0) (sa_cons (sv 1) sa_nil))) (sa_cons se_int sa_nil)))) (sa_cons se_non sa_nil)))) so_none (so_some (se_op op_addA ops_add se_int (sx_call (O__law_draw.mono (by decide)) hr rfl fc.g__law_draw F__law_draw.kp B__law_draw tk (sa_cons (sv 0) (sa_cons se_int sa_nil)))))) (.inl rfl))
    (ss_cons (ss_set (i := 3) nd rfl (by first | exact Or.inl rfl | exact Or.inr rfl) (se_op op_addA ops_add se_int (sx_call (O__law_draw.mono (by decide)) hr rfl fc.g__law_draw F__law_draw.kp B__law_draw tk (sa_cons (sv 0) (sa_cons se_int sa_nil)))) (.inl rfl))
    (ss_cons (ss_own (i := 4) nd rfl (by first | exact Or.inl rfl | exact Or.inr rfl) (sn_lst sa_nil) (.inl rfl))
    (ss_cons (ss_for (g := (gName 5)) (is := [5]) po rfl (si_range1 (pi_range1 rfl fc.b_range (pa_cons (sv 3) pa_nil))) (pg_name (i := 5) nd rfl (by first | exact Or.inl rfl | exact Or.inr rfl)) g_name (ss_cons (ss_set (i := 6) nd rfl (by first | exact Or.inl rfl | exact Or.inr rfl) (se_cmp op_gt (opb_int iGt) (sx_call (O__law_sent.mono (by decide)) hr rfl fc.g__law_sent F__law_sent.kp B__law_sent tk (sa_cons (se_ix (sl_e (sv 2)) se_int (fun _ _ => rfl)) (sa_cons (sv 1) (sa_cons (se_op op_addA ops_add (sv 5) se_int) sa_nil)))) (sx_call (O__law_sent.mono (by decide)) hr rfl fc.g__law_sent F__law_sent.kp B__law_sent tk (sa_cons (se_ix (sl_e (sv 2)) se_int (fun _ _ => rfl)) (sa_cons (sv 1) (sa_cons (sv 5) sa_nil)))) (nomark _)) (.inl rfl))
    (ss_one (ss_app (i := 4) (lamAt_none tx.lam) (ps_expr (pe_bm PySem.F.plainAttrs_list PySem.F.slot_list_append PySem.F.type_list_append mt_append (pv 4) (pa_cons (se_if (st_val (sv 6) (fun _ => rfl)) (se_tup (sa_cons se_int sa_nil)) (se_tup sa_nil)) pa_nil)))))))
    (ss_cons (ss_if (st_notN (sx_call (O_breach.mono (by decide)) hr rfl fc.g_breach F_breach.kp B_breach tk (sa_cons (sx_make fc.g_Buckets fc.k_Buckets O_Buckets_init (hr.mono (by decide)) rfl B_Buckets_init tk (sa_cons (sv 1) (sa_cons (sv 2) sa_nil))) (sa_cons (se_tupOf (pe_callTy call_tuple_of rfl fc.b_tuple boot_tuple (pa_cons (sl_own (i := 4) rfl (by first | exact Or.inl rfl | exact Or.inr (Or.inl rfl) | exact Or.inr (Or.inr rfl))) pa_nil))) sa_nil)))) (ss_one (ss_ret se_bl)) ss_nil)
    (ss_cons (ss_lcFT g_name (gs_in rfl) (ps_setLc (i := 7) (own := [("_law_beat", 5)]) rfl nd rfl rfl (sw_true rfl rfl rfl (by decide +kernel)) (si_range2 (pi_range2 rfl fc.b_range (pa_cons se_int (pa_cons (sv 3) pa_nil)))) (blkOk_by (N := ["_law_hand_here", "_law_bottom", "_law_rows_here", "_law_beats", "_law_stream_here", "_law_beat", "_law_sends", "_law_rests"]) (sc := defScope (top 43)) (by decide +kernel)) (fun _ _ _ _ _ => (pg_name (i := 5) nd rfl (by first | exact Or.inl rfl | exact Or.inr rfl))) (fun _ _ _ _ _ => (pts_one (st_cmp (op_eqD (hu64 hr)) opb_eq (se_ix (sl_own (i := 4) rfl (by first | exact Or.inl rfl | exact Or.inr (Or.inl rfl) | exact Or.inr (Or.inr rfl))) (sv 5) (fun _ _ => rfl)) (se_tup sa_nil) (nomark _)))) (fun _ _ _ _ _ => (sv 5)) ))
    (ss_cons (ss_if (st_cmp op_gt (opb_int iGt) (se_l1 l1_len (pe_callB call_len_seq rfl fc.b_len boot_len (pa_cons (sl_e (sv 7)) pa_nil))) se_int (nomark _)) (ss_one (ss_put (i := 4) (lamAt_none tx.lam) (ps_asg (se_tup (sa_cons se_int sa_nil)) (pg_sub (pv 4) (sx_call (O__law_pick.mono (by decide)) hr rfl fc.g__law_pick F__law_pick.kp B__law_pick tk (sa_cons (sv 0) (sa_cons (sv 7) sa_nil))) set_list)))) ss_nil)
    (ss_one (ss_ret (sx_call (O__law_same.mono (by decide)) hr rfl fc.g__law_same F__law_same.kp B__law_same tk (sa_cons (sx_call (O_breach.mono (by decide)) hr rfl fc.g_breach F_breach.kp B_breach tk (sa_cons (sx_make fc.g_Buckets fc.k_Buckets O_Buckets_init (hr.mono (by decide)) rfl B_Buckets_init tk (sa_cons (sv 1) (sa_cons (sv 2) sa_nil))) (sa_cons (se_tupOf (pe_callTy call_tuple_of rfl fc.b_tuple boot_tuple (pa_cons (sl_own (i := 4) rfl (by first | exact Or.inl rfl | exact Or.inr (Or.inl rfl) | exact Or.inr (Or.inr rfl))) pa_nil))) sa_nil))) (sa_cons (sx_call (O__law_breach.mono (by decide)) hr rfl fc.g__law_breach F__law_breach.kp B__law_breach tk (sa_cons (sv 2) (sa_cons (sv 1) (sa_cons (se_tupOf (pe_callTy call_tuple_of rfl fc.b_tuple boot_tuple (pa_cons (sl_own (i := 4) rfl (by first | exact Or.inl rfl | exact Or.inr (Or.inl rfl) | exact Or.inr (Or.inr rfl))) pa_nil))) sa_nil)))) sa_nil)))))))))))))
theorem sc__law_rows : FnScope ["_law_hand_here", "_law_many", "_law_bottom", "_law_burst", "_law_share", "_law_found", "_law_left", "_law_line", "_law_top"] (["_law_hand_here", "_law_many", "_law_bottom", "_law_burst", "_law_share"] : List Str) (defScope (top 31)) := ⟨rfl, rfl, rfl, by decide +kernel, rfl, by decide +kernel, by decide +kernel⟩
theorem ok__law_rows (fc : Fc K mg) (tx : Tx tl K mg base) : ∃ fd, FunD K "_law_rows" "_law_rows" (defArgs (top 31)) (defBody (top 31)) (defScope (top 31)) [] [] (He.fAd K ("_law_rows", none)) fd ∧ FnG P w K mg base (L2.CX P w) 2 (He.fAd K ("_law_rows", none)) fd (["_law_hand_here", "_law_many", "_law_bottom", "_law_burst", "_law_share"] : List Str) (spD (gk K mg) m__law_rows) ∧ Binds K fd (["_law_hand_here", "_law_many", "_law_bottom", "_law_burst", "_law_share"] : List Str) [] := by
  obtain ⟨fd__law_draw, F__law_draw, O__law_draw, B__law_draw⟩ := ok__law_draw (P := P) (w := w) (base := base) fc tx
  obtain ⟨fd, F⟩ := fc.f__law_rows
  have nd : (["_law_hand_here", "_law_many", "_law_bottom", "_law_burst", "_law_share", "_law_found", "_law_left", "_law_line", "_law_top"] : List Str).Nodup := sc__law_rows.nd
  refine ⟨fd, F, fn_okX (k := 1) F sc__law_rows rfl rfl (fun cdv A outer s H E M0 hr tk po => ?_), F.bindsN fun _ _ _ _ _ _ us hl => match us, hl with | [_, _, _, _, _], _ => rfl⟩
  exact (ss_cons (ss_par2 (ps_par (i := 5) (j := 6) rfl nd rfl rfl (by decide) rfl rfl (pa_items (.cons (.o (sn_lst sa_nil)) (.cons (.v (sv 2)) .nil))) rfl))
    (ss_cons (ss_for (g := (gName 7)) (is := [7]) po rfl (si_range1 (pi_range1 rfl fc.b_range (pa_cons (se_op op_addA ops_add se_int (sx_call (O__law_draw.mono (by decide)) hr rfl fc.g__law_draw F__law_draw.kp B__law_draw tk (sa_cons (sv 0) (sa_cons (sv 1) sa_nil)))) pa_nil))) (pg_name (i := 7) nd rfl (by first | exact Or.inl rfl | exact Or.inr rfl)) g_name (ss_one (ss_if (st_cmp (op_eqD (hu64 hr)) opb_eq (sx_call (O__law_draw.mono (by decide)) hr rfl fc.g__law_draw F__law_draw.kp B__law_draw tk (sa_cons (sv 0) (sa_cons se_int sa_nil))) se_int (nomark _)) (ss_one (ss_app (i := 5) (lamAt_none tx.lam) (ps_expr (pe_bm PySem.F.plainAttrs_list PySem.F.slot_list_append PySem.F.type_list_append mt_append (pv 5) (pa_cons se_non pa_nil))))) (ss_cons (ss_set (i := 8) nd rfl (by first | exact Or.inl rfl | exact Or.inr rfl) (se_if (st_cmp op_gt (opb_int iGt) (sx_call (O__law_draw.mono (by decide)) hr rfl fc.g__law_draw F__law_draw.kp B__law_draw tk (sa_cons (sv 0) (sa_cons (sv 4) sa_nil))) se_int (nomark _)) (sx_call (O__law_draw.mono (by decide)) hr rfl fc.g__law_draw F__law_draw.kp B__law_draw tk (sa_cons (sv 0) (sa_cons (se_op op_addA ops_add (sv 6) se_int) sa_nil))) (sx_call (O__law_draw.mono (by decide)) hr rfl fc.g__law_draw F__law_draw.kp B__law_draw tk (sa_cons (sv 0) (sa_cons (se_op op_addA ops_add (sv 2) se_int) sa_nil)))) (.inl rfl))
    (ss_cons (ss_set (i := 6) nd rfl (by first | exact Or.inl rfl | exact Or.inr rfl) (se_max2 (pe_callB (call_max2 rfl) rfl fc.b_max boot_max (pa_cons se_int (pa_cons (se_op op_sub ops_sub (sv 6) (sv 8)) pa_nil)))) (.inl rfl))
    (ss_one (ss_app (i := 5) (lamAt_none tx.lam) (ps_expr (pe_bm PySem.F.plainAttrs_list PySem.F.slot_list_append PySem.F.type_list_append mt_append (pv 5) (pa_cons (se_tup (sa_cons (se_op op_addA ops_add se_int (sx_call (O__law_draw.mono (by decide)) hr rfl fc.g__law_draw F__law_draw.kp B__law_draw tk (sa_cons (sv 0) (sa_cons (sv 3) sa_nil)))) (sa_cons (sv 8) (sa_cons (sx_call (O__law_draw.mono (by decide)) hr rfl fc.g__law_draw F__law_draw.kp B__law_draw tk (sa_cons (sv 0) (sa_cons se_int sa_nil))) sa_nil)))) pa_nil))))))))))
    (ss_one (ss_ret (se_tupOf (pe_callTy call_tuple_of rfl fc.b_tuple boot_tuple (pa_cons (sl_own (i := 5) rfl (by first | exact Or.inl rfl | exact Or.inr (Or.inl rfl) | exact Or.inr (Or.inr rfl))) pa_nil)))))))
theorem sc__law_stream : FnScope ["_law_hand_here", "_law_many", "_law_beats", "_law_share", "_law_found", "_law_beat", "_law_line"] (["_law_hand_here", "_law_many", "_law_beats"] : List Str) (defScope (top 35)) := ⟨rfl, rfl, rfl, by decide +kernel, rfl, by decide +kernel, by decide +kernel⟩
theorem ok__law_stream (fc : Fc K mg) (tx : Tx tl K mg base) : ∃ fd, FunD K "_law_stream" "_law_stream" (defArgs (top 35)) (defBody (top 35)) (defScope (top 35)) [] [] (He.fAd K ("_law_stream", none)) fd ∧ FnG P w K mg base (L2.CX P w) 3 (He.fAd K ("_law_stream", none)) fd (["_law_hand_here", "_law_many", "_law_beats"] : List Str) (spD (gk K mg) m__law_stream) ∧ Binds K fd (["_law_hand_here", "_law_many", "_law_beats"] : List Str) [] := by
  obtain ⟨fd__law_draw, F__law_draw, O__law_draw, B__law_draw⟩ := ok__law_draw (P := P) (w := w) (base := base) fc tx
  obtain ⟨fd__law_pick, F__law_pick, O__law_pick, B__law_pick⟩ := ok__law_pick (P := P) (w := w) (base := base) fc tx
  obtain ⟨fd, F⟩ := fc.f__law_stream
  have nd : (["_law_hand_here", "_law_many", "_law_beats", "_law_share", "_law_found", "_law_beat", "_law_line"] : List Str).Nodup := sc__law_stream.nd
  refine ⟨fd, F, fn_okX (k := 2) F sc__law_stream rfl rfl (fun cdv A outer s H E M0 hr tk po => ?_), F.bindsN fun _ _ _ _ _ _ us hl => match us, hl with | [_, _, _], _ => rfl⟩
  exact (ss_cons (ss_set (i := 3) nd rfl (by first | exact Or.inl rfl | exact Or.inr rfl) (sx_call (O__law_pick.mono (by decide)) hr rfl fc.g__law_pick F__law_pick.kp B__law_pick tk (sa_cons (sv 0) (sa_cons (se_frz (sn_lst (sa_cons se_int (sa_cons se_int (sa_cons se_int (sa_cons se_int (sa_cons se_int sa_nil))))))) sa_nil))) (.inl rfl))
    (ss_cons (ss_own (i := 4) nd rfl (by first | exact Or.inl rfl | exact Or.inr rfl) (sn_lst sa_nil) (.inl rfl))
    (ss_cons (ss_for (g := (gName 5)) (is := [5]) po rfl (si_range1 (pi_range1 rfl fc.b_range (pa_cons (sv 2) pa_nil))) (pg_name (i := 5) nd rfl (by first | exact Or.inl rfl | exact Or.inr rfl)) g_name (ss_one (ss_app (i := 4) (lamAt_none tx.lam) (ps_expr (pe_bm PySem.F.plainAttrs_list PySem.F.slot_list_append PySem.F.type_list_append mt_append (pv 4) (pa_cons (se_tupOf (pe_callTy call_tuple_of rfl fc.b_tuple boot_tuple (pa_cons (sl_e (se_frz (sn_lcT g_name (gs_in rfl) (pe_lc (own := [("_law_line", 6)]) rfl nd (si_range1 (pi_range1 rfl fc.b_range (pa_cons (sv 1) pa_nil))) (blkOk_by (N := ["_law_hand_here", "_law_many", "_law_beats", "_law_share", "_law_found", "_law_beat", "_law_line"]) (sc := defScope (top 35)) (by decide +kernel)) (fun _ _ _ _ _ => (pg_name (i := 6) nd rfl (by first | exact Or.inl rfl | exact Or.inr rfl))) (fun _ _ _ _ _ => (pts_one (st_cmp (op_eqD (hu64 hr)) opb_eq (sx_call (O__law_draw.mono (by decide)) hr rfl fc.g__law_draw F__law_draw.kp B__law_draw takes_none5 (sa_cons (sv 0) (sa_cons (sv 3) sa_nil))) se_int (nomark _)))) (fun _ _ _ _ _ => (sv 6)))))) pa_nil))) pa_nil))))))
    (ss_one (ss_ret (se_tupOf (pe_callTy call_tuple_of rfl fc.b_tuple boot_tuple (pa_cons (sl_own (i := 4) rfl (by first | exact Or.inl rfl | exact Or.inr (Or.inl rfl) | exact Or.inr (Or.inr rfl))) pa_nil))))))))
theorem sc__law_thinned : FnScope ["_law_rows_here", "_law_bottom", "_law_stream_here", "_law_came", "_law_row", "_law_found", "_law_beat", "_law_lot", "_law_some", "_law_line", "_law_later", "_law_is_let", "_law_at", "_law_begin"] (["_law_rows_here", "_law_bottom", "_law_stream_here"] : List Str) (defScope (top 36)) := ⟨rfl, rfl, rfl, by decide +kernel, rfl, by decide +kernel, by decide +kernel⟩
theorem ok__law_thinned (fc : Fc K mg) (tx : Tx tl K mg base) : ∃ fd, FunD K "_law_thinned" "_law_thinned" (defArgs (top 36)) (defBody (top 36)) (defScope (top 36)) [] [] (He.fAd K ("_law_thinned", none)) fd ∧ FnG P w K mg base (L2.CX P w) 2 (He.fAd K ("_law_thinned", none)) fd (["_law_rows_here", "_law_bottom", "_law_stream_here"] : List Str) (spD (gk K mg) m__law_thinned) ∧ Binds K fd (["_law_rows_here", "_law_bottom", "_law_stream_here"] : List Str) [] := by
  obtain ⟨fd__law_sent, F__law_sent, O__law_sent, B__law_sent⟩ := ok__law_sent (P := P) (w := w) (base := base) fc tx
  obtain ⟨fd, F⟩ := fc.f__law_thinned
  have nd : (["_law_rows_here", "_law_bottom", "_law_stream_here", "_law_came", "_law_row", "_law_found", "_law_beat", "_law_lot", "_law_some", "_law_line", "_law_later", "_law_is_let", "_law_at", "_law_begin"] : List Str).Nodup := sc__law_thinned.nd
  refine ⟨fd, F, fn_okX (k := 1) F sc__law_thinned rfl rfl (fun cdv A outer s H E M0 hr tk po => ?_), F.bindsN fun _ _ _ _ _ _ us hl => match us, hl with | [_, _, _], _ => rfl⟩
  exact (ss_cons (ss_lcOT g_name (gs_in rfl) (ps_setLc (i := 3) (own := [("_law_row", 4)]) rfl nd rfl rfl (sw_true rfl rfl rfl (by decide +kernel)) (si_seq (sv 0)) (blkOk_by (N := ["_law_rows_here", "_law_bottom", "_law_stream_here", "_law_came", "_law_row", "_law_found", "_law_beat", "_law_lot", "_law_some", "_law_line", "_law_later", "_law_is_let", "_law_at", "_law_begin"]) (sc := defScope (top 36)) (by decide +kernel)) (fun _ _ _ _ _ => (pg_name (i := 4) nd rfl (by first | exact Or.inl rfl | exact Or.inr rfl))) (fun _ _ _ _ _ => pts_y) (fun _ _ _ _ _ => (se_frz (sn_lst sa_nil))) ))
    (ss_cons (ss_own (i := 5) nd rfl (by first | exact Or.inl rfl | exact Or.inr rfl) (sn_lst sa_nil) (.inl rfl))
    (ss_cons (ss_for (g := (gTup _ 2 (gCons (gName 6) (gCons (gName 7) gNil)))) (is := ([6] ++ ([7] ++ []))) po rfl (si_enumA (pi_enumA rfl fc.b_enumerate (pa_cons (sv 2) pa_nil))) (pg_tup rfl (pgs_cons (pg_name (i := 6) nd rfl (by first | exact Or.inl rfl | exact Or.inr rfl)) (pgs_cons (pg_name (i := 7) nd rfl (by first | exact Or.inl rfl | exact Or.inr rfl)) pgs_nil))) (g_tup (gs_cons g_name (gs_cons g_name gs_nil))) (ss_cons (ss_own (i := 8) nd rfl (by first | exact Or.inl rfl | exact Or.inr rfl) (sn_lst sa_nil) (.inl rfl))
    (ss_cons (ss_for (g := (gName 9)) (is := [9]) po rfl (si_seq (sv 7)) (pg_name (i := 9) nd rfl (by first | exact Or.inl rfl | exact Or.inr rfl)) g_name (ss_cons (ss_set (i := 10) nd rfl (by first | exact Or.inl rfl | exact Or.inr rfl) (se_op op_addA ops_add (se_ix (sl_own (i := 3) rfl (by first | exact Or.inl rfl | exact Or.inr (Or.inl rfl) | exact Or.inr (Or.inr rfl))) (sv 9) (fun _ _ => rfl)) (se_frz (sn_lst (sa_cons (sv 6) sa_nil)))) (.inl rfl))
    (ss_cons (ss_set (i := 11) nd rfl (by first | exact Or.inl rfl | exact Or.inr rfl) se_bl (.inl rfl))
    (ss_cons (ss_for (g := (gTup _ 2 (gCons (gName 12) (gCons (gName 13) gNil)))) (is := ([12] ++ ([13] ++ []))) po rfl (si_enumA (pi_enumA rfl fc.b_enumerate (pa_cons (sv 10) pa_nil))) (pg_tup rfl (pgs_cons (pg_name (i := 12) nd rfl (by first | exact Or.inl rfl | exact Or.inr rfl)) (pgs_cons (pg_name (i := 13) nd rfl (by first | exact Or.inl rfl | exact Or.inr rfl)) pgs_nil))) (g_tup (gs_cons g_name (gs_cons g_name gs_nil))) (ss_one (ss_set (i := 11) nd rfl (by first | exact Or.inl rfl | exact Or.inr rfl) (se_and (sv 11) (se_one (se_cmp op_le (opb_int iLe) (se_op op_sub ops_sub (se_l1 l1_len (pe_callB call_len_seq rfl fc.b_len boot_len (pa_cons (sl_e (sv 10)) pa_nil))) (sv 12)) (sx_call (O__law_sent.mono (by decide)) hr rfl fc.g__law_sent F__law_sent.kp B__law_sent tk (sa_cons (se_ix (sl_e (sv 0)) (sv 9) (fun _ _ => rfl)) (sa_cons (sv 1) (sa_cons (se_op op_addA ops_add (se_op op_sub ops_sub (sv 6) (sv 13)) se_int) sa_nil)))) (nomark _)))) (.inl rfl))))
    (ss_one (ss_if (st_val (sv 11) (fun _ => rfl)) (ss_cons (ss_put (i := 3) (lamAt_none tx.lam) (ps_asg (sv 10) (pg_sub (pv 3) (sv 9) set_list)))
    (ss_one (ss_app (i := 8) (lamAt_none tx.lam) (ps_expr (pe_bm PySem.F.plainAttrs_list PySem.F.slot_list_append PySem.F.type_list_append mt_append (pv 8) (pa_cons (sv 9) pa_nil)))))) ss_nil))))))
    (ss_one (ss_app (i := 5) (lamAt_none tx.lam) (ps_expr (pe_bm PySem.F.plainAttrs_list PySem.F.slot_list_append PySem.F.type_list_append mt_append (pv 5) (pa_cons (se_tupOf (pe_callTy call_tuple_of rfl fc.b_tuple boot_tuple (pa_cons (sl_own (i := 8) rfl (by first | exact Or.inl rfl | exact Or.inr (Or.inl rfl) | exact Or.inr (Or.inr rfl))) pa_nil))) pa_nil))))))))
    (ss_one (ss_ret (se_tupOf (pe_callTy call_tuple_of rfl fc.b_tuple boot_tuple (pa_cons (sl_own (i := 5) rfl (by first | exact Or.inl rfl | exact Or.inr (Or.inl rfl) | exact Or.inr (Or.inr rfl))) pa_nil))))))))
theorem sc_check_line : FnScope ["buckets", "line"] (["buckets", "line"] : List Str) (defScope (top 19)) := ⟨rfl, rfl, rfl, by decide +kernel, rfl, by decide +kernel, by decide +kernel⟩
theorem ok_check_line (fc : Fc K mg) (tx : Tx tl K mg base) : ∃ fd, FunD K "check_line" "check_line" (defArgs (top 19)) (defBody (top 19)) (defScope (top 19)) [] [] (He.fAd K ("check_line", none)) fd ∧ FnG P w K mg base (L2.CX P w) 3 (He.fAd K ("check_line", none)) fd (["buckets", "line"] : List Str) (spD (gk K mg) m_check_line) ∧ Binds K fd (["buckets", "line"] : List Str) [] := by
  obtain ⟨fd_is_within, F_is_within, O_is_within, B_is_within⟩ := ok_is_within (P := P) (w := w) (base := base) fc tx
  obtain ⟨fd, F⟩ := fc.f_check_line
  have nd : (["buckets", "line"] : List Str).Nodup := sc_check_line.nd
  refine ⟨fd, F, fn_okX (k := 2) F sc_check_line rfl rfl (fun cdv A outer s H E M0 hr tk po => ?_), F.bindsN fun _ _ _ _ _ _ us hl => match us, hl with | [_, _], _ => rfl⟩
  exact (ss_one (ss_if (st_not (st_val (sx_call (O_is_within.mono (by decide)) hr rfl fc.g_is_within F_is_within.kp B_is_within tk (sa_cons (sv 1) (sa_cons se_int (sa_cons (se_op op_sub ops_sub (se_l1 l1_len (pe_callB call_len_seq rfl fc.b_len boot_len (pa_cons (sl_e (se_fld (cs := ["Buckets"]) (by intro c hc; simp only [List.mem_cons, List.not_mem_nil, or_false] at hc; subst hc; exact fld_of fc.g_Buckets fc.c_Buckets fc.n_Buckets_rows) (sv 0) rfl)) pa_nil))) se_int) sa_nil)))) (fun _ => rfl))) (ss_one (ss_raise rfl tk fc.x_NoLine fc.g_NoLine rfl)) ss_nil))
theorem sc_sent_by : FnScope ["bottom", "row", "beats"] (["bottom", "row", "beats"] : List Str) (defScope (top 20)) := ⟨rfl, rfl, rfl, by decide +kernel, rfl, by decide +kernel, by decide +kernel⟩
theorem ok_sent_by (fc : Fc K mg) (tx : Tx tl K mg base) : ∃ fd, FunD K "sent_by" "sent_by" (defArgs (top 20)) (defBody (top 20)) (defScope (top 20)) [] [] (He.fAd K ("sent_by", none)) fd ∧ FnG P w K mg base (L2.CX P w) 1 (He.fAd K ("sent_by", none)) fd (["bottom", "row", "beats"] : List Str) (spD (gk K mg) m_sent_by) ∧ Binds K fd (["bottom", "row", "beats"] : List Str) [] := by
  obtain ⟨fd, F⟩ := fc.f_sent_by
  have nd : (["bottom", "row", "beats"] : List Str).Nodup := sc_sent_by.nd
  refine ⟨fd, F, fn_okX (k := 0) F sc_sent_by rfl rfl (fun cdv A outer s H E M0 hr tk po => ?_), F.bindsN fun _ _ _ _ _ _ us hl => match us, hl with | [_, _, _], _ => rfl⟩
  exact (ss_cons (ss_if (st_isN (sv 1)) (ss_one (ss_ret se_int)) ss_nil)
    (ss_one (ss_ret (se_min2 (pe_callB (call_min2 rfl) rfl fc.b_min boot_min (pa_cons (sv 2) (pa_cons (se_op op_addA ops_add (se_ix (sl_e (sv 1)) se_int (fun _ _ => rfl)) (se_op op_fdiv ops_div (se_op op_mulA ops_mul (se_ix (sl_e (sv 1)) se_int (fun _ _ => rfl)) (sv 2)) (sv 0))) pa_nil)))))))
theorem sc_most_sent : FnScope ["buckets", "line", "beats"] (["buckets", "line", "beats"] : List Str) (defScope (top 21)) := ⟨rfl, rfl, rfl, by decide +kernel, rfl, by decide +kernel, by decide +kernel⟩
theorem ok_most_sent (fc : Fc K mg) (tx : Tx tl K mg base) : ∃ fd, FunD K "most_sent" "most_sent" (defArgs (top 21)) (defBody (top 21)) (defScope (top 21)) [] [] (He.fAd K ("most_sent", none)) fd ∧ FnG P w K mg base (L2.CX P w) 4 (He.fAd K ("most_sent", none)) fd (["buckets", "line", "beats"] : List Str) (spD (gk K mg) m_most_sent) ∧ Binds K fd (["buckets", "line", "beats"] : List Str) [] := by
  obtain ⟨fd_check_line, F_check_line, O_check_line, B_check_line⟩ := ok_check_line (P := P) (w := w) (base := base) fc tx
  obtain ⟨fd_is_within, F_is_within, O_is_within, B_is_within⟩ := ok_is_within (P := P) (w := w) (base := base) fc tx
  obtain ⟨fd_sent_by, F_sent_by, O_sent_by, B_sent_by⟩ := ok_sent_by (P := P) (w := w) (base := base) fc tx
  obtain ⟨t_MOST_ASKED, i_MOST_ASKED⟩ := fc.j_MOST_ASKED
  obtain ⟨fd, F⟩ := fc.f_most_sent
  have nd : (["buckets", "line", "beats"] : List Str).Nodup := sc_most_sent.nd
  refine ⟨fd, F, fn_okX (k := 3) F sc_most_sent rfl rfl (fun cdv A outer s H E M0 hr tk po => ?_), F.bindsN fun _ _ _ _ _ _ us hl => match us, hl with | [_, _, _], _ => rfl⟩
  exact (ss_cons (ss_drop (sx_call (O_check_line.mono (by decide)) hr rfl fc.g_check_line F_check_line.kp B_check_line tk (sa_cons (sv 0) (sa_cons (sv 1) sa_nil))))
    (ss_cons (ss_if (st_not (st_val (sx_call (O_is_within.mono (by decide)) hr rfl fc.g_is_within F_is_within.kp B_is_within tk (sa_cons (sv 2) (sa_cons se_int (sa_cons (se_gint rfl i_MOST_ASKED) sa_nil)))) (fun _ => rfl))) (ss_one (ss_raise rfl tk fc.x_NoNumber fc.g_NoNumber rfl)) ss_nil)
    (ss_one (ss_ret (sx_call (O_sent_by.mono (by decide)) hr rfl fc.g_sent_by F_sent_by.kp B_sent_by tk (sa_cons (se_fld (cs := ["Buckets"]) (by intro c hc; simp only [List.mem_cons, List.not_mem_nil, or_false] at hc; subst hc; exact fld_of fc.g_Buckets fc.c_Buckets fc.n_Buckets_bottom) (sv 0) rfl) (sa_cons (se_ix (sl_e (se_fld (cs := ["Buckets"]) (by intro c hc; simp only [List.mem_cons, List.not_mem_nil, or_false] at hc; subst hc; exact fld_of fc.g_Buckets fc.c_Buckets fc.n_Buckets_rows) (sv 0) rfl)) (sv 1) (fun _ _ => rfl)) (sa_cons (sv 2) sa_nil))))))))
theorem sc_law : FnScope ["_law_script", "_law_hand_here", "_law_turn", "_law_bottom", "_law_rows_here", "_law_part", "_law_buckets", "_law_line", "_law_beats", "_law_stream_here", "_law_again", "_law_more", "_law_change", "_law_at"] (["_law_script"] : List Str) (defScope (top 44)) := ⟨rfl, rfl, rfl, by decide +kernel, rfl, by decide +kernel, by decide +kernel⟩
theorem ok_law (fc : Fc K mg) (tx : Tx tl K mg base) : ∃ fd, FunD K "law" "law" (defArgs (top 44)) (defBody (top 44)) (defScope (top 44)) [] [] (He.fAd K ("law", none)) fd ∧ FnG P w K mg base (L2.CX P w) 8 (He.fAd K ("law", none)) fd (["_law_script"] : List Str) (spD (gk K mg) m_law) ∧ Binds K fd (["_law_script"] : List Str) [] := by
  obtain ⟨fd_Buckets___eq__, F_Buckets___eq__, O_Buckets___eq__, B_Buckets___eq__⟩ := ok_Buckets___eq__ (P := P) (w := w) (base := base) fc tx
  obtain ⟨fd_Buckets_init, F_Buckets_init, O_Buckets_init, B_Buckets_init⟩ := ok_Buckets_init (P := P) (w := w) (base := base) fc tx
  obtain ⟨fd__law_breach, F__law_breach, O__law_breach, B__law_breach⟩ := ok__law_breach (P := P) (w := w) (base := base) fc tx
  obtain ⟨fd__law_draw, F__law_draw, O__law_draw, B__law_draw⟩ := ok__law_draw (P := P) (w := w) (base := base) fc tx
  obtain ⟨fd__law_hand, F__law_hand, O__law_hand, B__law_hand⟩ := ok__law_hand (P := P) (w := w) (base := base) fc tx
  obtain ⟨fd__law_judged_right, F__law_judged_right, O__law_judged_right, B__law_judged_right⟩ := ok__law_judged_right (P := P) (w := w) (base := base) fc tx
  obtain ⟨fd__law_long_right, F__law_long_right, O__law_long_right, B__law_long_right⟩ := ok__law_long_right (P := P) (w := w) (base := base) fc tx
  obtain ⟨fd__law_pick, F__law_pick, O__law_pick, B__law_pick⟩ := ok__law_pick (P := P) (w := w) (base := base) fc tx
  obtain ⟨fd__law_rows, F__law_rows, O__law_rows, B__law_rows⟩ := ok__law_rows (P := P) (w := w) (base := base) fc tx
  obtain ⟨fd__law_same, F__law_same, O__law_same, B__law_same⟩ := ok__law_same (P := P) (w := w) (base := base) fc tx
  obtain ⟨fd__law_sent, F__law_sent, O__law_sent, B__law_sent⟩ := ok__law_sent (P := P) (w := w) (base := base) fc tx
  obtain ⟨fd__law_stream, F__law_stream, O__law_stream, B__law_stream⟩ := ok__law_stream (P := P) (w := w) (base := base) fc tx
  obtain ⟨fd__law_thinned, F__law_thinned, O__law_thinned, B__law_thinned⟩ := ok__law_thinned (P := P) (w := w) (base := base) fc tx
  obtain ⟨fd__law_told, F__law_told, O__law_told, B__law_told⟩ := ok__law_told (P := P) (w := w) (base := base) fc tx
  obtain ⟨fd_breach, F_breach, O_breach, B_breach⟩ := ok_breach (P := P) (w := w) (base := base) fc tx
  obtain ⟨fd_most_sent, F_most_sent, O_most_sent, B_most_sent⟩ := ok_most_sent (P := P) (w := w) (base := base) fc tx
  obtain ⟨fd, F⟩ := fc.f_law
  have nd : (["_law_script", "_law_hand_here", "_law_turn", "_law_bottom", "_law_rows_here", "_law_part", "_law_buckets", "_law_line", "_law_beats", "_law_stream_here", "_law_again", "_law_more", "_law_change", "_law_at"] : List Str).Nodup := sc_law.nd
  refine ⟨fd, F, fn_okX (k := 7) F sc_law rfl rfl (fun cdv A outer s H E M0 hr tk po => ?_), F.bindsN fun _ _ _ _ _ _ us hl => match us, hl with | [_], _ => rfl⟩
  exact (ss_cons (ss_set (i := 1) nd rfl (by first | exact Or.inl rfl | exact Or.inr rfl) (sx_call (O__law_hand.mono (by decide)) hr rfl fc.g__law_hand F__law_hand.kp B__law_hand tk (sa_cons (sv 0) sa_nil)) (.inl rfl))
    (ss_cons (ss_if (st_w (sw_and (st_cmp (op_eqD (hu64 hr)) opb_eq (sx_call (O__law_draw.mono (by decide)) hr rfl fc.g__law_draw F__law_draw.kp B__law_draw tk (sa_cons (sv 1) (sa_cons se_int sa_nil))) se_int (nomark _)) (sw_and1 (st_not (st_val (sx_call (O__law_long_right.mono (by decide)) hr rfl fc.g__law_long_right F__law_long_right.kp B__law_long_right tk (sa_cons (sv 1) sa_nil)) (fun _ => rfl)))))) (ss_one (ss_ret se_bl)) ss_nil)
    (ss_cons (ss_for (g := (gName 2)) (is := [2]) po rfl (si_range1 (pi_range1 rfl fc.b_range (pa_cons se_int pa_nil))) (pg_name (i := 2) nd rfl (by first | exact Or.inl rfl | exact Or.inr rfl)) g_name (ss_cons (ss_set (i := 3) nd rfl (by first | exact Or.inl rfl | exact Or.inr rfl) (se_op op_addA ops_add se_int (sx_call (O__law_draw.mono (by decide)) hr rfl fc.g__law_draw F__law_draw.kp B__law_draw tk (sa_cons (sv 1) (sa_cons se_int sa_nil)))) (.inl rfl))
    (ss_cons (ss_set (i := 4) nd rfl (by first | exact Or.inl rfl | exact Or.inr rfl) (sx_call (O__law_rows.mono (by decide)) hr rfl fc.g__law_rows F__law_rows.kp B__law_rows tk (sa_cons (sv 1) (sa_cons se_int (sa_cons (sv 3) (sa_cons se_int (sa_cons se_int sa_nil)))))) (.inl rfl))
    (ss_cons (ss_asg (g := (gTup _ 2 (gCons (gName 5) (gCons (gName 6) gNil)))) (is := ([5] ++ ([6] ++ []))) (sx_call (O__law_told.mono (by decide)) hr rfl fc.g__law_told F__law_told.kp B__law_told tk (sa_cons (sv 3) (sa_cons (sv 4) sa_nil))) (pg_tup rfl (pgs_cons (pg_name (i := 5) nd rfl (by first | exact Or.inl rfl | exact Or.inr rfl)) (pgs_cons (pg_name (i := 6) nd rfl (by first | exact Or.inl rfl | exact Or.inr rfl)) pgs_nil))) (g_tup (gs_cons g_name (gs_cons g_name gs_nil))))
    (ss_cons (ss_if (st_w (sw_or (st_notN (sv 5)) (sw_or (st_not (st_ownEq (neg := false) fc.g_Buckets fc.c_Buckets fc.ic_Buckets fc.oq_Buckets O_Buckets___eq__ (hr.mono (by decide)) B_Buckets___eq__ (sv 6) (sx_make fc.g_Buckets fc.k_Buckets O_Buckets_init (hr.mono (by decide)) rfl B_Buckets_init tk (sa_cons (sv 3) (sa_cons (sv 4) sa_nil))) (nomark _))) (sw_or1 (st_ownEq (neg := false) fc.g_Buckets fc.c_Buckets fc.ic_Buckets fc.oq_Buckets O_Buckets___eq__ (hr.mono (by decide)) B_Buckets___eq__ (sv 6) (se_tup (sa_cons (sv 3) (sa_cons (sv 4) sa_nil))) (nomark _)))))) (ss_one (ss_ret se_bl)) ss_nil)
    (ss_cons (ss_par (ps_par (i := 7) (j := 8) rfl nd rfl rfl (by decide) rfl rfl (pa_cons (sx_call (O__law_draw.mono (by decide)) hr rfl fc.g__law_draw F__law_draw.kp B__law_draw tk (sa_cons (sv 1) (sa_cons (se_l1 l1_len (pe_callB call_len_seq rfl fc.b_len boot_len (pa_cons (sl_e (sv 4)) pa_nil))) sa_nil))) (pa_cons (sx_call (O__law_pick.mono (by decide)) hr rfl fc.g__law_pick F__law_pick.kp B__law_pick tk (sa_cons (sv 1) (sa_cons (se_frz (sn_lst (sa_cons se_int (sa_cons se_int (sa_cons se_int (sa_cons (sx_call (O__law_draw.mono (by decide)) hr rfl fc.g__law_draw F__law_draw.kp B__law_draw tk (sa_cons (sv 1) (sa_cons se_int sa_nil))) (sa_cons (se_op op_pow ops_pow se_int se_int) sa_nil))))))) sa_nil))) pa_nil)) rfl) (by decide))
    (ss_cons (ss_if (st_not (st_val (sx_call (O__law_same.mono (by decide)) hr rfl fc.g__law_same F__law_same.kp B__law_same tk (sa_cons (sx_call (O_most_sent.mono (by decide)) hr rfl fc.g_most_sent F_most_sent.kp B_most_sent tk (sa_cons (sv 6) (sa_cons (sv 7) (sa_cons (sv 8) sa_nil)))) (sa_cons (sx_call (O__law_sent.mono (by decide)) hr rfl fc.g__law_sent F__law_sent.kp B__law_sent tk (sa_cons (se_ix (sl_e (sv 4)) (sv 7) (fun _ _ => rfl)) (sa_cons (sv 3) (sa_cons (sv 8) sa_nil)))) sa_nil))) (fun _ => rfl))) (ss_one (ss_ret se_bl)) ss_nil)
    (ss_cons (ss_set (i := 9) nd rfl (by first | exact Or.inl rfl | exact Or.inr rfl) (sx_call (O__law_thinned.mono (by decide)) hr rfl fc.g__law_thinned F__law_thinned.kp B__law_thinned tk (sa_cons (sv 4) (sa_cons (sv 3) (sa_cons (sx_call (O__law_stream.mono (by decide)) hr rfl fc.g__law_stream F__law_stream.kp B__law_stream tk (sa_cons (sv 1) (sa_cons (se_l1 l1_len (pe_callB call_len_seq rfl fc.b_len boot_len (pa_cons (sl_e (sv 4)) pa_nil))) (sa_cons (sx_call (O__law_draw.mono (by decide)) hr rfl fc.g__law_draw F__law_draw.kp B__law_draw tk (sa_cons (sv 1) (sa_cons se_int sa_nil))) sa_nil)))) sa_nil)))) (.inl rfl))
    (ss_cons (ss_if (st_notN (sx_call (O_breach.mono (by decide)) hr rfl fc.g_breach F_breach.kp B_breach tk (sa_cons (sv 6) (sa_cons (sv 9) sa_nil)))) (ss_one (ss_ret se_bl)) ss_nil)
    (ss_one (ss_for (g := (gName 10)) (is := [10]) po rfl (si_range1 (pi_range1 rfl fc.b_range (pa_cons se_int pa_nil))) (pg_name (i := 10) nd rfl (by first | exact Or.inl rfl | exact Or.inr rfl)) g_name (ss_cons (ss_own (i := 11) nd rfl (by first | exact Or.inl rfl | exact Or.inr rfl) (sn_lstOf (pe_callTy call_list_of rfl fc.b_list boot_list (pa_cons (sl_e (sv 9)) pa_nil))) (.inl rfl))
    (ss_cons (ss_for (g := (gName 12)) (is := [12]) po rfl (si_range1 (pi_range1 rfl fc.b_range (pa_cons (se_op op_addA ops_add se_int (sx_call (O__law_draw.mono (by decide)) hr rfl fc.g__law_draw F__law_draw.kp B__law_draw tk (sa_cons (sv 1) (sa_cons se_int sa_nil)))) pa_nil))) (pg_name (i := 12) nd rfl (by first | exact Or.inl rfl | exact Or.inr rfl)) g_name (ss_one (ss_if (st_cmp op_gt (opb_int iGt) (se_l1 l1_len (pe_callB call_len_seq rfl fc.b_len boot_len (pa_cons (sl_own (i := 11) rfl (by first | exact Or.inl rfl | exact Or.inr (Or.inl rfl) | exact Or.inr (Or.inr rfl))) pa_nil))) se_int (nomark _)) (ss_cons (ss_set (i := 13) nd rfl (by first | exact Or.inl rfl | exact Or.inr rfl) (sx_call (O__law_draw.mono (by decide)) hr rfl fc.g__law_draw F__law_draw.kp B__law_draw tk (sa_cons (sv 1) (sa_cons (se_l1 l1_len (pe_callB call_len_seq rfl fc.b_len boot_len (pa_cons (sl_own (i := 11) rfl (by first | exact Or.inl rfl | exact Or.inr (Or.inl rfl) | exact Or.inr (Or.inr rfl))) pa_nil))) sa_nil))) (.inl rfl))
    (ss_one (ss_put (i := 11) (lamAt_none tx.lam) (ps_asg (se_tupOf (pe_callTy call_tuple_of rfl fc.b_tuple boot_tuple (pa_cons (sl_e (se_frz (sn_sortSetT (pe_sortSetT rfl fc.b_sorted rfl fc.b_set (sl_e (se_op op_addA ops_add (se_ix (sl_own (i := 11) rfl (by first | exact Or.inl rfl | exact Or.inr (Or.inl rfl) | exact Or.inr (Or.inr rfl))) (sv 13) (fun _ _ => rfl)) (se_tup (sa_cons (sx_call (O__law_draw.mono (by decide)) hr rfl fc.g__law_draw F__law_draw.kp B__law_draw tk (sa_cons (sv 1) (sa_cons (se_l1 l1_len (pe_callB call_len_seq rfl fc.b_len boot_len (pa_cons (sl_e (sv 4)) pa_nil))) sa_nil))) sa_nil)))))))) pa_nil))) (pg_sub (pv 11) (sv 13) set_list))))) ss_nil)))
    (ss_cons (ss_if (st_not (st_val (sx_call (O__law_same.mono (by decide)) hr rfl fc.g__law_same F__law_same.kp B__law_same tk (sa_cons (sx_call (O_breach.mono (by decide)) hr rfl fc.g_breach F_breach.kp B_breach tk (sa_cons (sv 6) (sa_cons (se_tupOf (pe_callTy call_tuple_of rfl fc.b_tuple boot_tuple (pa_cons (sl_own (i := 11) rfl (by first | exact Or.inl rfl | exact Or.inr (Or.inl rfl) | exact Or.inr (Or.inr rfl))) pa_nil))) sa_nil))) (sa_cons (sx_call (O__law_breach.mono (by decide)) hr rfl fc.g__law_breach F__law_breach.kp B__law_breach tk (sa_cons (sv 4) (sa_cons (sv 3) (sa_cons (se_tupOf (pe_callTy call_tuple_of rfl fc.b_tuple boot_tuple (pa_cons (sl_own (i := 11) rfl (by first | exact Or.inl rfl | exact Or.inr (Or.inl rfl) | exact Or.inr (Or.inr rfl))) pa_nil))) sa_nil)))) sa_nil))) (fun _ => rfl))) (ss_one (ss_ret se_bl)) ss_nil)
    (ss_one (ss_if (st_not (st_val (sx_call (O__law_judged_right.mono (by decide)) hr rfl fc.g__law_judged_right F__law_judged_right.kp B__law_judged_right tk (sa_cons (sv 1) (sa_cons (sv 3) (sa_cons (sv 4) sa_nil)))) (fun _ => rfl))) (ss_one (ss_ret se_bl)) ss_nil))))))))))))))))
    (ss_one (ss_ret se_bl)))))
end
end L54

end
section
set_option Elab.async false
set_option linter.all false
set_option maxRecDepth 100000
set_option maxHeartbeats 4000000
/-! What the small tongue tells, as equations: no machine here. -/
namespace Dn
open PySem
@[simp] theorem eC_ap (d : D)  (r : Rho) (S : Store) : eC d r S = (.ok d S) := nr rfl
@[simp] theorem eVar_ap (i : Nat)  (r : Rho) (S : Store) : eVar i r S = (match r[i]? with
  | some (.val d) => .ok d S
  | _ => .bad) := nr rfl
@[simp] theorem eOp_ap (f : Store → D → D → Option D) (a b : DE)  (r : Rho) (S : Store) : eOp f a b r S = ((a r S).bind fun x S => (b r S).bind fun y S => Rs.ofO (f S x y) S) := nr rfl
@[simp] theorem eUn_ap (f : D → Option D) (a : DE)  (r : Rho) (S : Store) : eUn f a r S = ((a r S).bind fun x S => Rs.ofO (f x) S) := nr rfl
@[simp] theorem eCmp_ap (f : Store → D → D → Option Bool) (a b : DE)  (r : Rho) (S : Store) : eCmp f a b r S = ((a r S).bind fun x S => (b r S).bind fun y S => Rs.ofO ((f S x y).map D.bl) S) := nr rfl
@[simp] theorem eCmp1_ap (f : D → Option Bool) (a : DE)  (r : Rho) (S : Store) : eCmp1 f a r S = ((a r S).bind fun x S => Rs.ofO ((f x).map D.bl) S) := nr rfl
@[simp] theorem eChain_ap (f g : Store → D → D → Option Bool) (a b c : DE)  (r : Rho) (S : Store) : eChain f g a b c r S = ((a r S).bind fun x S => (b r S).bind fun y S => (Rs.ofO (f S x y) S).bind fun k S =>
  if k then (c r S).bind fun z S => Rs.ofO ((g S y z).map D.bl) S else .ok (.bl false) S) := nr rfl
@[simp] theorem tOfB_ap (a : DE)  (r : Rho) (S : Store) : tOfB a r S = ((a r S).bind fun x S => match x with
  | .bl b => .ok b S
  | _ => .bad) := nr rfl
@[simp] theorem tNotD_ap (a : DT)  (r : Rho) (S : Store) : tNotD a r S = ((a r S).bind fun x S => .ok (!x) S) := nr rfl
@[simp] theorem tAndD_ap (a b : DT)  (r : Rho) (S : Store) : tAndD a b r S = ((a r S).bind fun x S => if x then b r S else .ok false S) := nr rfl
@[simp] theorem tOrD_ap (a b : DT)  (r : Rho) (S : Store) : tOrD a b r S = ((a r S).bind fun x S => if x then .ok true S else b r S) := nr rfl
@[simp] theorem eAnd_ap (a b : DE)  (r : Rho) (S : Store) : eAnd a b r S = ((a r S).bind fun x S => match x with
  | .bl c => if c then b r S else .ok (.bl false) S
  | _ => .bad) := nr rfl
@[simp] theorem eOr_ap (a b : DE)  (r : Rho) (S : Store) : eOr a b r S = ((a r S).bind fun x S => match x with
  | .bl c => if c then .ok (.bl true) S else b r S
  | _ => .bad) := nr rfl
@[simp] theorem eNot_ap (a : DE)  (r : Rho) (S : Store) : eNot a r S = ((a r S).bind fun x S => match x with
  | .bl c => .ok (.bl (!c)) S
  | _ => .bad) := nr rfl
@[simp] theorem eIf_ap (t : DT) (a b : DE)  (r : Rho) (S : Store) : eIf t a b r S = ((t r S).bind fun x S => if x then a r S else b r S) := nr rfl
@[simp] theorem aNil_ap   (r : Rho) (S : Store) : aNil  r S = (.ok [] S) := nr rfl
@[simp] theorem aCons_ap (a : DE) (b : DA)  (r : Rho) (S : Store) : aCons a b r S = ((a r S).bind fun x S => (b r S).bind fun xs S => .ok (x :: xs) S) := nr rfl
@[simp] theorem eTup_ap (a : DA)  (r : Rho) (S : Store) : eTup a r S = ((a r S).bind fun xs S => if xs.length ≤ sizeLine then .ok (.tup xs) S else .bad) := nr rfl
@[simp] theorem eLst_ap (a : DA)  (r : Rho) (S : Store) : eLst a r S = ((a r S).bind fun xs S => if xs.length ≤ sizeLine then .ok (.lst xs) S else .bad) := nr rfl
@[simp] theorem nLst_ap (a : DA)  (r : Rho) (S : Store) : nLst a r S = ((a r S).bind fun xs S => if xs.length ≤ sizeLine then .ok xs S else .bad) := nr rfl
@[simp] theorem eFrz_ap (a : DA)  (r : Rho) (S : Store) : eFrz a r S = ((a r S).bind fun xs S => .ok (.lst xs) S) := nr rfl
@[simp] theorem eNew_ap (a : DA)  (r : Rho) (S : Store) : eNew a r S = ((a r S).bind fun xs S => .ok (.ref S.length) (S ++ [.lst xs])) := nr rfl
@[simp] theorem eCall_ap (m : Fn) (a : DA)  (r : Rho) (S : Store) : eCall m a r S = ((a r S).bind fun xs S => m xs S) := nr rfl
@[simp] theorem lE_ap (a : DE)  (r : Rho) (S : Store) : lE a r S = ((a r S).bind fun x S => Rs.ofO (srcOf S x) S) := nr rfl
@[simp] theorem lOwn_ap (i : Nat)  (r : Rho) (S : Store) : lOwn i r S = (match r[i]? with
  | some (.own _) => .ok (.own i) S
  | _ => .bad) := nr rfl
@[simp] theorem eL1_ap (f : Bool → List D → Option D) (a : DL)  (r : Rho) (S : Store) : eL1 f a r S = ((a r S).bind fun c S => Rs.ofO ((c.get r S).bind (f c.isT)) S) := nr rfl
@[simp] theorem nLstOf_ap (a : DL)  (r : Rho) (S : Store) : nLstOf a r S = ((a r S).bind fun c S => Rs.ofO (c.get r S) S) := nr rfl
@[simp] theorem eCount_ap (b : DL) (a : DE)  (r : Rho) (S : Store) : eCount b a r S = ((b r S).bind fun c S => (Rs.ofO (if c.isT then none else c.get r S) S).bind fun _ S => (a r S).bind fun x S => (Rs.ofO (c.get r S) S).bind fun xs S =>
  if D.pl 63 x && D.pls 63 xs then .ok (.int (xs.countP fun z => eqD z x : Nat)) S else .bad) := nr rfl
@[simp] theorem eIndex_ap (b : DL) (a : DE)  (r : Rho) (S : Store) : eIndex b a r S = ((b r S).bind fun c S => (Rs.ofO (if c.isT then none else c.get r S) S).bind fun _ S => (a r S).bind fun x S => (Rs.ofO (c.get r S) S).bind fun xs S =>
  if D.pl 63 x && D.pls 63 xs && xs.any (fun z => eqD z x) then .ok (.int (xs.findIdx fun z => eqD z x : Nat)) S else .bad) := nr rfl
@[simp] theorem eLenS_ap (a : DE)  (r : Rho) (S : Store) : eLenS a r S = ((a r S).bind fun x S => match x with
  | .str z => if z.length ≤ sizeLine then .ok (.int z.length) S else .bad
  | _ => .bad) := nr rfl
@[simp] theorem eIx_ap (a : DL) (b : DE)  (r : Rho) (S : Store) : eIx a b r S = ((a r S).bind fun c S => (b r S).bind fun y S => match y with
  | .int i => Rs.ofO ((c.get r S).bind fun xs => atD xs i) S
  | _ => .bad) := nr rfl
@[simp] theorem eAppR_ap (o a : DE)  (r : Rho) (S : Store) : eAppR o a r S = ((o r S).bind fun p S => match p with
  | .ref l => (match S[l]? with
    | some (.lst _) => (a r S).bind fun x S => (match S[l]? with
      | some (.lst xs) => if xs.length < sizeLine then .ok .non (S.set l (.lst (xs ++ [x]))) else .bad
      | _ => .bad)
    | _ => .bad)
  | _ => .bad) := nr rfl
@[simp] theorem ePopR_ap (o k : DE)  (r : Rho) (S : Store) : ePopR o k r S = ((o r S).bind fun p S => match p with
  | .ref l => (match S[l]? with
    | some (.lst _) => (k r S).bind fun n S => (match n, S[l]? with
      | .int j, some (.lst xs) => (match place xs.length j with
        | some m => (match xs[m]? with
          | some y => .ok y (S.set l (.lst (xs.eraseIdx m)))
          | none => .bad)
        | none => .bad)
      | _, _ => .bad)
    | _ => .bad)
  | _ => .bad) := nr rfl
@[simp] theorem ePopR0_ap (o : DE)  (r : Rho) (S : Store) : ePopR0 o r S = ((o r S).bind fun p S => match p with
  | .ref l => (match S[l]? with
    | some (.lst xs) => (match xs[xs.length - 1]? with
      | some y => .ok y (S.set l (.lst xs.dropLast))
      | none => .bad)
    | _ => .bad)
  | _ => .bad) := nr rfl
@[simp] theorem oNone_ap   (r : Rho) (S : Store) : oNone  r S = (.ok none S) := nr rfl
@[simp] theorem oSome_ap (a : DE)  (r : Rho) (S : Store) : oSome a r S = ((a r S).bind fun x S => match x with
  | .int i => .ok (some i) S
  | _ => .bad) := nr rfl
@[simp] theorem eSlice_ap (a : DL) (lo hi : DO)  (r : Rho) (S : Store) : eSlice a lo hi r S = ((a r S).bind fun c S => (lo r S).bind fun l S => (hi r S).bind fun u S => (Rs.ofO (c.get r S) S).bind fun xs S =>
  .ok (if c.isT then .tup (cutD xs l u) else .lst (cutD xs l u)) S) := nr rfl
@[simp] theorem nSorted_ap (a : DL)  (r : Rho) (S : Store) : nSorted a r S = ((a r S).bind fun c S => (Rs.ofO (c.get r S) S).bind fun xs S => if !c.isT && sortOk xs then .ok (sortD xs) S else .bad) := nr rfl
theorem eIn_ap (neg : Bool) (a : DE) (b : DL)  (r : Rho) (S : Store) : eIn neg a b r S = ((a r S).bind fun x S => (b r S).bind fun c S => (Rs.ofO (c.get r S) S).bind fun xs S =>
  if D.pl 63 x && D.pls 63 xs then .ok (.bl (if neg then !xs.any (fun z => eqD z x) else xs.any (fun z => eqD z x))) S else .bad) := rfl
@[simp] theorem eAbs_ap (a : DE)  (r : Rho) (S : Store) : eAbs a r S = ((a r S).bind fun x S => match x with
  | .int i => .ok (.int (if i < 0 then -i else i)) S
  | _ => .bad) := nr rfl
@[simp] theorem eInt_ap (a : DE)  (r : Rho) (S : Store) : eInt a r S = ((a r S).bind fun x S => match x with
  | .int i => .ok (.int i) S
  | .bl b => .ok (.int (if b then 1 else 0)) S
  | _ => .bad) := nr rfl
@[simp] theorem eMin2_ap (a b : DE)  (r : Rho) (S : Store) : eMin2 a b r S = ((a r S).bind fun x S => (b r S).bind fun y S => match x, y with
  | .int i, .int j => .ok (.int (if j < i then j else i)) S
  | _, _ => .bad) := nr rfl
@[simp] theorem eMax2_ap (a b : DE)  (r : Rho) (S : Store) : eMax2 a b r S = ((a r S).bind fun x S => (b r S).bind fun y S => match x, y with
  | .int i, .int j => .ok (.int (if j > i then j else i)) S
  | _, _ => .bad) := nr rfl
@[simp] theorem eIsTy_ap (n : String) (a : DE)  (r : Rho) (S : Store) : eIsTy n a r S = ((a r S).bind fun x S => match tyName S x with
  | some t => .ok (.bl (isTy t n)) S
  | none => .bad) := nr rfl
@[simp] theorem eFld_ap (cs : List Str) (f : Str) (a : DE)  (r : Rho) (S : Store) : eFld cs f a r S = ((a r S).bind fun x S => match x with
  | .ref l => (match S[l]? with
    | some (.ins c fs) => if c ∈ cs then Rs.ofO (fs.lookup f) S else .bad
    | _ => .bad)
  | _ => .bad) := nr rfl
@[simp] theorem eMeth_ap (c m : Str) (g : Fn) (o : DE) (a : DA)  (r : Rho) (S : Store) : eMeth c m g o a r S = ((o r S).bind fun x S => match x with
  | .ref l => (match S[l]? with
    | some (.ins k fs) => if k = c ∧ fs.lookup m = none then (a r S).bind fun xs S => g (x :: xs) S else .bad
    | _ => .bad)
  | _ => .bad) := nr rfl
@[simp] theorem eMake_ap (c : Str) (g : Fn) (a : DA)  (r : Rho) (S : Store) : eMake c g a r S = ((a r S).bind fun xs S => (g (.ref S.length :: xs) (S ++ [.ins c []])).bind fun v S2 => match v with
  | .non => .ok (.ref S.length) S2
  | _ => .bad) := nr rfl
@[simp] theorem tYesD_ap   (r : Rho) (S : Store) : tYesD  r S = (.ok true S) := nr rfl
theorem nLc_ap (its : DI) (g : DG) (t : DT) (e : DE) (vs : List Nat)  (r : Rho) (S : Store) : nLc its g t e vs r S = ((its r S).bind fun w S => lcGo w.ok g t e (wipeD r vs) w.xs S) := rfl
theorem iRange1_ap (a : DE)  (r : Rho) (S : Store) : iRange1 a r S = ((a r S).bind fun x S => match x with
  | .int j => if rOk j && decide (j ≤ sizeLine) then .ok (wkS (rangeD 0 j)) S else .bad
  | _ => .bad) := rfl
theorem iRange2_ap (a b : DE)  (r : Rho) (S : Store) : iRange2 a b r S = ((a r S).bind fun x S => (b r S).bind fun y S => match x, y with
  | .int i, .int j => if rOk i && rOk j && decide (j - i ≤ sizeLine) then .ok (wkS (rangeD i j)) S else .bad
  | _, _ => .bad) := rfl
@[simp] theorem iSeqD_ap (a : DE)  (r : Rho) (S : Store) : iSeqD a r S = ((a r S).bind fun x S => Rs.ofO (wkOf S x) S) := nr rfl
@[simp] theorem iEnumD_ap (a : DE)  (r : Rho) (S : Store) : iEnumD a r S = ((a r S).bind fun x S => match wkL S x with
  | some w => if w.xs.length ≤ sizeLine then .ok ⟨enumD 0 w.xs, w.ok⟩ S else .bad
  | none => .bad) := nr rfl
@[simp] theorem iZipD_ap (a b : DE)  (r : Rho) (S : Store) : iZipD a b r S = ((a r S).bind fun x S => (b r S).bind fun y S => match wkZ S x y with
  | some w => if w.xs.length ≤ sizeLine then .ok w S else .bad
  | none => .bad) := nr rfl
@[simp] theorem sNext_ap   (r : Rho) (S : Store) : sNext  r S = (.next r S) := nr rfl
@[simp] theorem sSeq_ap (a b : DS)  (r : Rho) (S : Store) : sSeq a b r S = ((a r S).bind b) := nr rfl
@[simp] theorem sSet_ap (i : Nat) (a : DE)  (r : Rho) (S : Store) : sSet i a r S = ((a r S).toS r fun x S => if i < r.length then .next (r.set i (.val x)) S else .bad) := nr rfl
@[simp] theorem sSetOwn_ap (i : Nat) (a : DA)  (r : Rho) (S : Store) : sSetOwn i a r S = ((a r S).toS r fun xs S => if i < r.length then .next (r.set i (.own xs)) S else .bad) := nr rfl
@[simp] theorem sAsg_ap (a : DE) (g : DG)  (r : Rho) (S : Store) : sAsg a g r S = ((a r S).toS r fun x S => match g x r S with
  | some r' => .next r' S
  | none => .bad) := nr rfl
@[simp] theorem sPar_ap (i j : Nat) (a b : DE)  (r : Rho) (S : Store) : sPar i j a b r S = ((a r S).toS r fun x S => (b r S).toS r fun y S => if i < r.length ∧ j < r.length then .next ((r.set i (.val x)).set j (.val y)) S else .bad) := nr rfl
@[simp] theorem sDrop_ap (a : DE)  (r : Rho) (S : Store) : sDrop a r S = ((a r S).toS r fun _ S => .next r S) := nr rfl
@[simp] theorem sRet_ap (a : DE)  (r : Rho) (S : Store) : sRet a r S = ((a r S).toS r fun x S => .ret x r S) := nr rfl
@[simp] theorem sRetOwn_ap (i : Nat)  (r : Rho) (S : Store) : sRetOwn i r S = (match r[i]? with
  | some (.own xs) => if noLam r then .ret (.lst xs) (r.set i .un) S else .bad
  | _ => .bad) := nr rfl
@[simp] theorem sFrz_ap (i : Nat)  (r : Rho) (S : Store) : sFrz i r S = (match r[i]? with
  | some (.own xs) => if noLam r then .next (r.set i (.val (.lst xs))) S else .bad
  | _ => .bad) := nr rfl
@[simp] theorem sRetN_ap   (r : Rho) (S : Store) : sRetN  r S = (.ret .non r S) := nr rfl
@[simp] theorem sIf_ap (t : DT) (a b : DS)  (r : Rho) (S : Store) : sIf t a b r S = ((t r S).toS r fun x S => if x then a r S else b r S) := nr rfl
@[simp] theorem sBrk_ap   (r : Rho) (S : Store) : sBrk  r S = (.brk r S) := nr rfl
@[simp] theorem sCnt_ap   (r : Rho) (S : Store) : sCnt  r S = (.cont r S) := nr rfl
@[simp] theorem sBad_ap   (r : Rho) (S : Store) : sBad  r S = (.bad) := nr rfl
@[simp] theorem sApp_ap (i : Nat) (a : DE)  (r : Rho) (S : Store) : sApp i a r S = (match r[i]? with
  | some (.own _) => (a r S).toS r fun x S => match r[i]? with
    | some (.own xs) => if xs.length < sizeLine then .next (r.set i (.own (xs ++ [x]))) S else .bad
    | _ => .bad
  | _ => .bad) := nr rfl
@[simp] theorem sPutR_ap (o k : DE) (a : DE)  (r : Rho) (S : Store) : sPutR o k a r S = ((a r S).toS r fun x S => (o r S).toS r fun p S => (k r S).toS r fun n S => match p, n with
  | .ref l, .int j => (match S[l]? with
    | some (.lst xs) => (match place xs.length j with
      | some m => .next r (S.set l (.lst (xs.set m x)))
      | none => .bad)
    | _ => .bad)
  | _, _ => .bad) := nr rfl
@[simp] theorem sPut_ap (i : Nat) (k : DE) (a : DE)  (r : Rho) (S : Store) : sPut i k a r S = ((a r S).toS r fun x S => match r[i]? with
  | some (.own _) => (k r S).toS r fun n S => (match n, r[i]? with
    | .int j, some (.own xs) => (match place xs.length j with
      | some m => .next (r.set i (.own (xs.set m x))) S
      | none => .bad)
    | _, _ => .bad)
  | _ => .bad) := nr rfl
@[simp] theorem sFldD_ap (cs : List Str) (f : Str) (o : DE) (a : DE)  (r : Rho) (S : Store) : sFldD cs f o a r S = ((a r S).toS r fun x S => (o r S).toS r fun p S => match p with
  | .ref l => (match S[l]? with
    | some (.ins c fs) => if c ∈ cs ∧ fs.length < 1000 then .next r (S.set l (.ins c (putFD f x fs))) else .bad
    | _ => .bad)
  | _ => .bad) := nr rfl
@[simp] theorem sAugI_ap (i : Nat) (f : Int → Int → Int) (a : DE)  (r : Rho) (S : Store) : sAugI i f a r S = (match r[i]? with
  | some (.val (.int x)) => (a r S).toS r fun y S => (match y with
    | .int j => .next (r.set i (.val (.int (f x j)))) S
    | _ => .bad)
  | _ => .bad) := nr rfl
@[simp] theorem sFor_ap (its : DI) (g : DG) (b : DS)  (r : Rho) (S : Store) : sFor its g b r S = ((its r S).toS r fun w S => forGo w.ok g b w.xs r S) := nr rfl

@[simp] theorem eLen_ap (a : DL) (r : Rho) (S : Store) : eLen a r S = ((a r S).bind fun c S => Rs.ofO ((c.get r S).bind fun xs => some (.int xs.length)) S) := nr rfl
@[simp] theorem eTupOf_ap (a : DL) (r : Rho) (S : Store) : eTupOf a r S = ((a r S).bind fun c S => Rs.ofO ((c.get r S).bind fun xs => some (.tup xs)) S) := nr rfl
@[simp] theorem eAll_ap (a : DL) (r : Rho) (S : Store) : eAll a r S = ((a r S).bind fun c S => Rs.ofO ((c.get r S).bind fun xs => if c.isT then none else (boolsOf xs).map fun bs => .bl (bs.all id)) S) := nr rfl
@[simp] theorem eAny_ap (a : DL) (r : Rho) (S : Store) : eAny a r S = ((a r S).bind fun c S => Rs.ofO ((c.get r S).bind fun xs => if c.isT then none else (boolsOf xs).map fun bs => .bl (bs.any id)) S) := nr rfl
@[simp] theorem eSum_ap (a : DL) (r : Rho) (S : Store) : eSum a r S = ((a r S).bind fun c S => Rs.ofO ((c.get r S).bind fun xs => if c.isT then none else (intsOf xs).map fun ns => .int ns.sum) S) := nr rfl
/-! ### values -/
@[simp] theorem srcOf_tup (S : Store) (xs : List D) : srcOf S (.tup xs) = some (.cst true xs) := nr rfl
@[simp] theorem srcOf_lst (S : Store) (xs : List D) : srcOf S (.lst xs) = some (.cst false xs) := nr rfl
theorem srcOf_ref {S : Store} {l : Nat} {xs : List D} (h : S[l]? = some (.lst xs)) : srcOf S (.ref l) = some (.loc l) := by simp [srcOf, h]
@[simp] theorem get_cst (t : Bool) (xs : List D) (r : Rho) (S : Store) : (Src.cst t xs).get r S = some xs := nr rfl
theorem get_loc {S : Store} {l : Nat} {xs : List D} {r : Rho} (h : S[l]? = some (.lst xs)) : (Src.loc l).get r S = some xs := by simp [Src.get, h]
@[simp] theorem isT_cst (t : Bool) (xs : List D) : (Src.cst t xs).isT = t := nr rfl
@[simp] theorem isT_loc (l : Nat) : (Src.loc l).isT = false := nr rfl
@[simp] theorem cmpEq_int (S : Store) (a b : Int) : cmpEq S (.int a) (.int b) = some (decide (a = b)) := by
  simp [cmpEq, flatL, D.pl, eqD]
  by_cases h : a = b <;> simp [h]
@[simp] theorem cmpNe_int (S : Store) (a b : Int) : cmpNe S (.int a) (.int b) = some (!decide (a = b)) := by
  simp [cmpNe, flatL, D.pl, eqD]
  by_cases h : a = b <;> simp [h]
@[simp] theorem cmpI_int (p : Int → Int → Bool) (a b : Int) : cmpI p (.int a) (.int b) = some (p a b) := nr rfl
@[simp] theorem opAdd_int (S : Store) (a b : Int) : opAdd S (.int a) (.int b) = some (.int (a + b)) := nr rfl
@[simp] theorem opSub_int (a b : Int) : opSub (.int a) (.int b) = some (.int (a - b)) := nr rfl
@[simp] theorem opNeg_int (a : Int) : opNeg (.int a) = some (.int (-a)) := nr rfl
theorem opMul_int {S : Store} {a b : Int} (h : mulOk a b = true) : opMul S (.int a) (.int b) = some (.int (a * b)) := by simp [opMul, h]
theorem opDiv_int {a b : Int} (h : 0 < b) (h2 : b < 1073741824) : opDiv (.int a) (.int b) = some (.int (a / b)) := by simp [opDiv, h, h2]
theorem opMod_int {a b : Int} (h : 0 < b) : opMod (.int a) (.int b) = some (.int (a % b)) := by simp [opMod, h]
theorem mulOk_l {a b : Int} (h1 : -(2 ^ 64) < a) (h2 : a < 2 ^ 64) : mulOk a b = true := by simp [mulOk]; left; exact ⟨h1, h2⟩
theorem mulOk_r {a b : Int} (h1 : -(2 ^ 64) < b) (h2 : b < 2 ^ 64) : mulOk a b = true := by simp [mulOk]; right; exact ⟨h1, h2⟩
theorem set_get {S : Store} {h : Nat} (o : SO) (hl : h < S.length) : (S.set h o)[h]? = some o := by simp [hl]
theorem set_get_ne {S : Store} {h k : Nat} (o : SO) (ne : h ≠ k) : (S.set h o)[k]? = S[k]? := by simp [ne]
theorem lt_of_get {S : Store} {h : Nat} {o : SO} (e : S[h]? = some o) : h < S.length := (List.getElem?_eq_some_iff.mp e).1
@[simp] theorem sizeLine_val : sizeLine = 16777216 := by decide
@[simp] theorem wkS_ok (xs : List D) : (wkS xs).ok = fun _ => True := nr rfl
@[simp] theorem wkS_xs (xs : List D) : (wkS xs).xs = xs := nr rfl
/-! ### the drawing of numbers, as many laws write it -/
def handO (gs : List Int) (p d s c : Int) : SO := .lst [.lst (gs.map D.int), .int p, .int d, .int s, .int c]
/-- the hand stands at h -/
def HandOk (S : Store) (h : Nat) : Prop := ∃ (gs : List Int) (p : Nat) (d s c : Int), S[h]? = some (handO gs p d s c) ∧ 0 ≤ d ∧ ∀ g ∈ gs, 0 ≤ g
def draw1 : DS := sIf (tAndD (tOfB (eCmp cmpEq (eIx (lE (eVar 0)) (eC (.int 2))) (eC (.int 0)))) (tOfB (eCmp (fun _ => cmpI iLt) (eIx (lE (eVar 0)) (eC (.int 1))) (eLen (lE (eIx (lE (eVar 0)) (eC (.int 0)))))))) (sSeq (sSet 2 (eIx (lE (eIx (lE (eVar 0)) (eC (.int 0)))) (eIx (lE (eVar 0)) (eC (.int 1))))) (sSeq (sPutR (eVar 0) (eC (.int 1)) (eOp opAdd (eIx (lE (eVar 0)) (eC (.int 1))) (eC (.int 1)))) (sSeq (sPutR (eVar 0) (eC (.int 3)) (eOp (fun _ => opMod) (eInt (eOp opAdd (eOp opAdd (eOp opMul (eIx (lE (eVar 0)) (eC (.int 3))) (eC (.int 69621))) (eVar 2)) (eC (.int 11)))) (eC (.int 2147483629)))) (sIf (tOfB (eCmp (fun _ => cmpI iGe) (eVar 2) (eOp (fun _ => opPow) (eC (.int 10)) (eC (.int 18))))) (sPutR (eVar 0) (eC (.int 2)) (eVar 2)) (sNext))))) (sNext)
def draw2 : DS := sIf (tOfB (eCmp (fun _ => cmpI iGt) (eIx (lE (eVar 0)) (eC (.int 2))) (eC (.int 0)))) (sSeq (sSet 3 (eOp (fun _ => opMod) (eInt (eIx (lE (eVar 0)) (eC (.int 2)))) (eVar 1))) (sSeq (sPutR (eVar 0) (eC (.int 2)) (eOp (fun _ => opDiv) (eIx (lE (eVar 0)) (eC (.int 2))) (eVar 1))) (sRet (eVar 3)))) (sNext)
def draw3 : DS := sSeq (sPutR (eVar 0) (eC (.int 4)) (eOp opAdd (eIx (lE (eVar 0)) (eC (.int 4))) (eC (.int 1)))) (sSeq (sSet 4 (eOp (fun _ => opMod) (eInt (eOp opMul (eInt (eOp opAdd (eIx (lE (eVar 0)) (eC (.int 3))) (eOp opMul (eC (.int 7919)) (eIx (lE (eVar 0)) (eC (.int 4)))))) (eC (.int 48271)))) (eC (.int 2147483647)))) (sSeq (sSet 4 (eOp (fun _ => opMod) (eInt (eOp opMul (eVar 4) (eOp opAdd (eOp (fun _ => opDiv) (eVar 4) (eC (.int 1009))) (eC (.int 69621))))) (eC (.int 2147483647)))) (sSeq (sSet 4 (eOp (fun _ => opMod) (eInt (eOp opMul (eVar 4) (eOp opAdd (eOp (fun _ => opDiv) (eVar 4) (eC (.int 2003))) (eC (.int 40692))))) (eC (.int 2147483399)))) (sRet (eOp (fun _ => opMod) (eInt (eOp (fun _ => opDiv) (eVar 4) (eC (.int 16)))) (eVar 1))))))
def drawF : Fn := fnD 2 5 (sSeq draw1 (sSeq draw2 draw3))
@[simp] theorem hand_at0 (gs : List Int) (p d s c : Int) : atD [.lst (gs.map D.int), .int p, .int d, .int s, .int c] 0 = some (.lst (gs.map D.int)) := nr rfl
@[simp] theorem hand_at1 (x : D) (p d s c : Int) : atD [x, .int p, .int d, .int s, .int c] 1 = some (.int p) := nr rfl
@[simp] theorem hand_at2 (x : D) (p d s c : Int) : atD [x, .int p, .int d, .int s, .int c] 2 = some (.int d) := nr rfl
@[simp] theorem hand_at3 (x : D) (p d s c : Int) : atD [x, .int p, .int d, .int s, .int c] 3 = some (.int s) := nr rfl
@[simp] theorem hand_at4 (x : D) (p d s c : Int) : atD [x, .int p, .int d, .int s, .int c] 4 = some (.int c) := nr rfl
theorem atD_nat {xs : List D} {i : Nat} {d : D} (h : xs[i]? = some d) : atD xs (i : Int) = some d := by
  have hl : i < xs.length := (List.getElem?_eq_some_iff.mp h).1
  have e : xs[i] = d := by
    rw [List.getElem?_eq_getElem hl] at h
    exact Option.some.inj h
  simp [atD, place, hl, e]
theorem place_nat {n i : Nat} (h : i < n) : place n (i : Int) = some i := by simp [place, h]
theorem place_lt {n : Nat} {i : Int} (h0 : 0 ≤ i) (h : i < n) : place n i = some i.toNat := by simp [place, h0, h]
theorem set_same {S : Store} {h : Nat} {o : SO} (e : S[h]? = some o) : S.set h o = S := by
  apply List.ext_getElem?
  intro i
  by_cases q : h = i
  · subst q
    rw [set_get o (lt_of_get e), e]
  · rw [set_get_ne o q]
theorem draw1_ok {S : Store} {h : Nat} {gs : List Int} {p : Nat} {d s c many : Int} (hS : S[h]? = some (handO gs p d s c)) (hd : 0 ≤ d) (hg : ∀ g ∈ gs, 0 ≤ g) :
    ∃ (x : Sl) (p' : Nat) (d' s' : Int), draw1 [.val (.ref h), .val (.int many), .un, .un, .un] S = .next [.val (.ref h), .val (.int many), x, .un, .un] (S.set h (handO gs p' d' s' c)) ∧ 0 ≤ d' := by
  have hl := lt_of_get hS
  have hS' : S[h]? = some (.lst [.lst (gs.map D.int), .int p, .int d, .int s, .int c]) := hS
  by_cases hc : d = 0 ∧ p < gs.length
  · obtain ⟨rfl, hp⟩ := hc
    have hg2 : (gs.map D.int)[p]? = some (.int gs[p]) := by simp [hp]
    have hg3 := atD_nat hg2
    have m1 : opMul S (.int s) (.int 69621) = some (.int (s * 69621)) := opMul_int (mulOk_r (by decide) (by decide))
    have hp2 : (p : Int) < gs.length := by omega
    by_cases hb : (1000000000000000000 : Int) ≤ gs[p]
    · refine ⟨.val (.int gs[p]), p + 1, gs[p], (s * 69621 + gs[p] + 11) % 2147483629, ?_, by omega⟩
      simp [draw1, srcOf, Src.get, hS', set_get _ hl, hp2, hg3, opMul_int (mulOk_r (a := s) (b := 69621) (by decide) (by decide)), opMod, place, opPow, hb, handO]
    · refine ⟨.val (.int gs[p]), p + 1, 0, (s * 69621 + gs[p] + 11) % 2147483629, ?_, by omega⟩
      simp [draw1, srcOf, Src.get, hS', set_get _ hl, hp2, hg3, opMul_int (mulOk_r (a := s) (b := 69621) (by decide) (by decide)), opMod, place, opPow, hb, handO]
  · refine ⟨.un, p, d, s, ?_, hd⟩
    rw [set_same hS]
    by_cases h0 : d = 0
    · subst h0
      have hp2 : ¬ ((p : Int) < gs.length) := by omega
      simp [draw1, srcOf, Src.get, hS', hp2]
    · simp [draw1, srcOf, Src.get, hS', h0]
theorem draw2_ok {S : Store} {h : Nat} {gs : List Int} {p d s c many : Int} {x : Sl} (hS : S[h]? = some (handO gs p d s c)) (hd : 0 < d) (h1 : 1 ≤ many) (h2 : many < 1073741824) :
    draw2 [.val (.ref h), .val (.int many), x, .un, .un] S = .ret (.int (d % many)) [.val (.ref h), .val (.int many), x, .val (.int (d % many)), .un] (S.set h (handO gs p (d / many) s c)) := by
  have hl := lt_of_get hS
  have hS' : S[h]? = some (.lst [.lst (gs.map D.int), .int p, .int d, .int s, .int c]) := hS
  have h1' : 0 < many := by omega
  simp [draw2, srcOf, Src.get, hS', set_get _ hl, opMod, opDiv, place, hd, h1', h2, handO]
theorem draw2_no {S : Store} {h : Nat} {gs : List Int} {p d s c many : Int} {x : Sl} (hS : S[h]? = some (handO gs p d s c)) (hd : ¬ 0 < d) :
    draw2 [.val (.ref h), .val (.int many), x, .un, .un] S = .next [.val (.ref h), .val (.int many), x, .un, .un] S := by
  have hS' : S[h]? = some (.lst [.lst (gs.map D.int), .int p, .int d, .int s, .int c]) := hS
  simp [draw2, srcOf, Src.get, hS', hd]
theorem draw3_ok {S : Store} {h : Nat} {gs : List Int} {p d s c many : Int} {x : Sl} (hS : S[h]? = some (handO gs p d s c)) (h1 : 1 ≤ many) :
    ∃ (v : Int) (r : Rho), draw3 [.val (.ref h), .val (.int many), x, .un, .un] S = .ret (.int (v % many)) r (S.set h (handO gs p d s (c + 1))) := by
  have hl := lt_of_get hS
  have hS' : S[h]? = some (.lst [.lst (gs.map D.int), .int p, .int d, .int s, .int c]) := hS
  have h1' : 0 < many := by omega
  have e1 : ∀ (S : Store) (a : Int), opMul S (.int a) (.int 48271) = some (.int (a * 48271)) := fun S a => opMul_int (mulOk_r (by decide) (by decide))
  have e2 : ∀ (S : Store) (a : Int), opMul S (.int 7919) (.int a) = some (.int (7919 * a)) := fun S a => opMul_int (mulOk_l (by decide) (by decide))
  have e3 : ∀ (S : Store) (a b : Int), opMul S (.int (a % 2147483647)) (.int b) = some (.int (a % 2147483647 * b)) := fun S a b => opMul_int (mulOk_l (by omega) (by omega))
  simp [draw3, srcOf, Src.get, hS', set_get _ hl, opMod, opDiv, place, h1', handO, e1, e2, e3]
  exact ⟨_, rfl⟩
theorem set_set {S : Store} {h : Nat} {a b : SO} : (S.set h a).set h b = S.set h b := by simp
/-- a number is drawn: below many; only the hand changes -/
theorem draw_ok {S : Store} {h : Nat} {many : Int} (hS : HandOk S h) (h1 : 1 ≤ many) (h2 : many < 1073741824) :
    ∃ (v : Int) (o : SO), drawF [.ref h, .int many] S = .ok (.int v) (S.set h o) ∧ HandOk (S.set h o) h ∧ 0 ≤ v ∧ v < many := by
  obtain ⟨gs, p, d, s, c, hS, hd, hg⟩ := hS
  have hl := lt_of_get hS
  obtain ⟨x, p', d', s', e1, hd'⟩ := draw1_ok (many := many) hS hd hg
  have hS1 : (S.set h (handO gs p' d' s' c))[h]? = some (handO gs p' d' s' c) := set_get _ hl
  by_cases hp : 0 < d'
  · refine ⟨d' % many, handO gs p' (d' / many) s' c, ?_, ⟨gs, p', d' / many, s', c, set_get _ hl, Int.ediv_nonneg hd' (by omega), hg⟩, Int.emod_nonneg _ (by omega), Int.emod_lt_of_pos _ (by omega)⟩
    have e2 := draw2_ok (x := x) hS1 hp h1 h2
    rw [set_set] at e2
    simp [drawF, fnD, e1, e2]
  · have e2 := draw2_no (x := x) (many := many) hS1 hp
    obtain ⟨v, r, e3⟩ := draw3_ok (x := x) hS1 h1
    rw [set_set] at e3
    refine ⟨v % many, handO gs p' d' s' (c + 1), ?_, ⟨gs, p', d', s', c + 1, set_get _ hl, hd', hg⟩, Int.emod_nonneg _ (by omega), Int.emod_lt_of_pos _ (by omega)⟩
    simp [drawF, fnD, e1, e2, e3]
/-- _law_hand: the hand of a script -/
noncomputable def handF : Fn := fnD 1 3 (sSeq (sSet 1 (eFrz (nLc (iSeqD (eSlice (lE (eVar 0)) oNone (oSome (eC (.int 63))))) (gNameD 2) (tYesD) (eAbs (eInt (eVar 2))) [2]))) (sRet (eNew (nLst (aCons (eVar 1) (aCons (eC (.int 0)) (aCons (eC (.int 0)) (aCons (eOp opAdd (eC (.int 1)) (eLen (lE (eVar 1)))) (aCons (eC (.int 0)) (aNil))))))))))
/-- a comprehension whose turns change nothing -/
theorem lcGo_pure {ok : Store → Prop} {g : DG} {t : DT} {e : DE} {r : Rho} {S : Store} (hok : ok S) {xs : List D} {ys : List D} (hl : ys.length = xs.length)
    (h : ∀ (i : Nat) (x y : D), xs[i]? = some x → ys[i]? = some y → ∃ r', g x r S = some r' ∧ t r' S = .ok true S ∧ e r' S = .ok y S) : lcGo ok g t e r xs S = .ok ys S := by
  induction xs generalizing ys with
  | nil =>
    cases ys with
    | nil => simp [lcGo, hok]
    | cons _ _ => simp at hl
  | cons x xs ih =>
    cases ys with
    | nil => simp at hl
    | cons y ys =>
      obtain ⟨r', h1, h2, h3⟩ := h 0 x y rfl rfl
      have := ih (ys := ys) (by simpa using hl) fun i a b ha hb => h (i + 1) a b (by simpa using ha) (by simpa using hb)
      simp [lcGo, hok, h1, h2, h3, this]
theorem get_map {a b : Type} {f : a → b} {xs : List a} {i : Nat} {y : b} (h : (xs.map f)[i]? = some y) : ∃ x, xs[i]? = some x ∧ y = f x := by
  rw [List.getElem?_map] at h
  cases q : xs[i]? with
  | none => rw [q] at h; cases h
  | some x => rw [q] at h; cases h; exact ⟨x, rfl, rfl⟩
theorem hand_ok {ns : List Int} {S : Store} : ∃ gs c, handF [.lst (ns.map D.int)] S = .ok (.ref S.length) (S ++ [handO gs (0 : Nat) 0 c 0]) ∧ ∀ g ∈ gs, 0 ≤ g := by
  have cut : ∃ ms : List Int, cutD (ns.map D.int) none (some 63) = ms.map D.int := ⟨(ns.drop 0).take (min 63 ns.length - 0), by simp [cutD, cutAt]⟩
  obtain ⟨ms, hm⟩ := cut
  refine ⟨ms.map fun i => if i < 0 then -i else i, 1 + (ms.length : Int), ?_, fun g hg => ?_⟩
  · have lc : lcGo (fun _ => True) (gNameD 2) tYesD (eAbs (eInt (eVar 2))) [.val (.lst (ns.map D.int)), .un, .un] (ms.map D.int) S = .ok ((ms.map fun i => if i < 0 then -i else i).map D.int) S := by
      refine lcGo_pure trivial (by simp) fun i x y hx hy => ?_
      obtain ⟨k, e1, rfl⟩ := get_map hx
      obtain ⟨k2, e2, rfl⟩ := get_map hy
      obtain ⟨k3, e3, rfl⟩ := get_map e2
      rw [e1] at e3
      cases e3
      exact ⟨[.val (.lst (ns.map D.int)), .un, .val (.int k)], by simp [gNameD], by simp [tYesD], by simp⟩
    simp only [List.map_map] at lc
    simp [handF, fnD, hm, wkOf, wipeD, lc, handO, nLc_ap]
  · simp only [List.mem_map] at hg
    obtain ⟨i, _, rfl⟩ := hg
    split <;> omega
end Dn
namespace Dn
open PySem
theorem lcGo_new {ok : Store → Prop} {g : DG} {t : DT} {e : DE} {r : Rho} : ∀ (xs : List D) (os : List SO) (S : Store), os.length = xs.length → (∀ k, k ≤ os.length → ok (S ++ os.take k)) →
    (∀ (i : Nat) (x : D) (o : SO), xs[i]? = some x → os[i]? = some o → ∃ r', g x r (S ++ os.take i) = some r' ∧ t r' (S ++ os.take i) = .ok true (S ++ os.take i) ∧ e r' (S ++ os.take i) = .ok (.ref (S.length + i)) ((S ++ os.take i) ++ [o])) →
    lcGo ok g t e r xs S = .ok ((List.range xs.length).map fun i => D.ref (S.length + i)) (S ++ os)
  | [], os, S, hl, hok, h => by
    have : os = [] := by cases os with
      | nil => rfl
      | cons _ _ => simp at hl
    subst this
    have := hok 0 (Nat.le_refl _)
    simp at this
    simp [lcGo, this]
  | x :: xs, os, S, hl, hok, h => by
    cases os with
    | nil => simp at hl
    | cons o os =>
      obtain ⟨r', h1, h2, h3⟩ := h 0 x o rfl rfl
      have h0 := hok 0 (Nat.zero_le _)
      simp at h0 h1 h2 h3
      have ih := lcGo_new (ok := ok) (g := g) (t := t) (e := e) (r := r) xs os (S ++ [o]) (by simpa using hl) (fun k hk => by simpa using hok (k + 1) (by simpa using hk)) fun i a b ha hb => by
        have := h (i + 1) a b (by simpa using ha) (by simpa using hb)
        simpa [Nat.add_assoc, Nat.add_comm 1 i] using this
      simp [lcGo, h0, h1, h2, h3, ih, List.range_succ_eq_map, Function.comp_def, Nat.add_assoc, Nat.add_comm 1]
/-- a loop whose turns keep P -/
theorem forGo_inv {ok : Store → Prop} {g : DG} {b : DS} (P : Nat → Rho → Store → Prop) : ∀ (xs : List D) (k : Nat) (r : Rho) (S : Store), P k r S → (∀ i r S, P i r S → ok S) →
    (∀ (i : Nat) (x : D) (r : Rho) (S : Store), xs[i]? = some x → P (k + i) r S → ∃ r', g x r S = some r' ∧ ∃ r2 S2, (b r' S = .next r2 S2 ∨ b r' S = .cont r2 S2) ∧ P (k + i + 1) r2 S2) →
    ∃ r' S', forGo ok g b xs r S = .next r' S' ∧ P (k + xs.length) r' S'
  | [], k, r, S, h, hok, _ => ⟨r, S, by simp [forGo, hok k r S h], h⟩
  | x :: xs, k, r, S, h, hok, st => by
    obtain ⟨r', h1, r2, S2, h2, h3⟩ := st 0 x r S rfl h
    obtain ⟨r3, S3, h4, h5⟩ := forGo_inv P xs (k + 1) r2 S2 (by simpa using h3) hok fun i y r S hy hp => by
      have := st (i + 1) y r S (by simpa using hy) (by simpa [Nat.add_assoc, Nat.add_comm 1] using hp)
      simpa [Nat.add_assoc, Nat.add_comm 1] using this
    refine ⟨r3, S3, ?_, by simpa [Nat.add_assoc, Nat.add_comm 1] using h5⟩
    rcases h2 with h2 | h2 <;> simp [forGo, hok k r S h, h1, h2, h4]
theorem rOk_nat {n : Nat} (h : n ≤ 1000000) : rOk (n : Int) = true := by
  simp only [rOk, Bool.and_eq_true, decide_eq_true_eq]
  constructor
  · have : (-(2 ^ 62) : Int) ≤ 0 := by decide
    omega
  · have : (1000001 : Int) ≤ 2 ^ 62 := by decide
    omega
theorem le_line {n : Nat} (h : n ≤ 1000000) : (n : Int) ≤ (sizeLine : Nat) := Int.ofNat_le.mpr (Nat.le_trans h (by rw [sizeLine_val]; omega))
theorem iRange1_at {a : DE} {r : Rho} {S S' : Store} {j : Int} (h : rOk j = true) (h2 : j ≤ (sizeLine : Nat)) (e : a r S = .ok (.int j) S') : iRange1 a r S = .ok (wkS (rangeD 0 j)) S' := by
  rw [iRange1_ap, e, Rs.bind_ok]
  dsimp only
  rw [if_pos (by rw [Bool.and_eq_true]; exact ⟨h, decide_eq_true h2⟩)]
theorem iRange1_nat {a : DE} {r : Rho} {S S' : Store} {n : Nat} (h : n ≤ 1000000) (e : a r S = .ok (.int n) S') : iRange1 a r S = .ok (wkS (rangeD 0 n)) S' := iRange1_at (rOk_nat h) (le_line h) e
theorem rangeD_nat (n : Nat) : rangeD 0 n = (List.range n).map fun (i : Nat) => D.int i := by simp [rangeD]
/-! ### steps, one after another -/
section
variable {r r' : Rho} {S S' S2 : Store} {a b : DS} {e f : DE} {t : DT} {v w : D} {xs : List D} {as : DA} {m : Fn}
theorem seq_next (h : a r S = .next r' S') : sSeq a b r S = b r' S' := by rw [sSeq_ap, h, Sr.bind_next]
theorem seq_ret (h : a r S = .ret v r' S') : sSeq a b r S = .ret v r' S' := by rw [sSeq_ap, h, Sr.bind_ret]
theorem if_t (h : t r S = .ok true S') : sIf t a b r S = a r S' := by rw [sIf_ap, h, Rs.toS_ok, if_pos rfl]
theorem if_f (h : t r S = .ok false S') : sIf t a b r S = b r S' := by rw [sIf_ap, h, Rs.toS_ok, if_neg Bool.false_ne_true]
theorem drop_at (h : e r S = .ok v S') : sDrop e r S = .next r S' := by rw [sDrop_ap, h, Rs.toS_ok]
theorem ret_at (h : e r S = .ok v S') : sRet e r S = .ret v r S' := by rw [sRet_ap, h, Rs.toS_ok]
theorem set_at {i : Nat} (h : e r S = .ok v S') (hi : i < r.length) : sSet i e r S = .next (r.set i (.val v)) S' := by rw [sSet_ap, h, Rs.toS_ok, if_pos hi]
theorem call_at (h : as r S = .ok xs S') (k : m xs S' = .ok v S2) : eCall m as r S = .ok v S2 := by rw [eCall_ap, h, Rs.bind_ok, k]
theorem new_at (h : as r S = .ok xs S') : eNew as r S = .ok (.ref S'.length) (S' ++ [.lst xs]) := by rw [eNew_ap, h, Rs.bind_ok]
theorem frz_at (h : as r S = .ok xs S') : eFrz as r S = .ok (.lst xs) S' := by rw [eFrz_ap, h, Rs.bind_ok]
theorem cons_at (h : e r S = .ok v S') (k : as r S' = .ok xs S2) : aCons e as r S = .ok (v :: xs) S2 := by rw [aCons_ap, h, Rs.bind_ok, k, Rs.bind_ok]
theorem nil_at : aNil r S = .ok [] S := rfl
theorem op_at {f : Store → D → D → Option D} {e1 e2 : DE} {x y z : D} (h1 : e1 r S = .ok x S') (h2 : e2 r S' = .ok y S2) (h3 : f S2 x y = some z) : eOp f e1 e2 r S = .ok z S2 := by rw [eOp_ap, h1, Rs.bind_ok, h2, Rs.bind_ok, h3, Rs.ofO_some]
theorem meth_at {c mn : Str} {o : DE} {l : Nat} {fs : List (Str × D)} (h1 : o r S = .ok (.ref l) S') (h2 : S'[l]? = some (.ins c fs)) (h3 : fs.lookup mn = none) (h4 : as r S' = .ok xs S2) : eMeth c mn m o as r S = m (.ref l :: xs) S2 := by
  rw [eMeth_ap, h1, Rs.bind_ok]
  dsimp only
  rw [h2]
  dsimp only
  rw [if_pos ⟨rfl, h3⟩, h4, Rs.bind_ok]
theorem make_at {c : Str} {S3 : Store} (h : as r S = .ok xs S') (k : m (.ref S'.length :: xs) (S' ++ [.ins c []]) = .ok .non S3) : eMake c m as r S = .ok (.ref S'.length) S3 := by rw [eMake_ap, h, Rs.bind_ok, k, Rs.bind_ok]
theorem lc_at {its : DI} {g : DG} {vs : List Nat} {wk : Wk} {ys : List D} (h : its r S = .ok wk S') (k : lcGo wk.ok g t e (wipeD r vs) wk.xs S' = .ok ys S2) : nLc its g t e vs r S = .ok ys S2 := by
  rw [nLc_ap, h, Rs.bind_ok, k]
theorem fld_at {cs : List Str} {c f : Str} {o : DE} {l : Nat} {fs : List (Str × D)} (h1 : o r S = .ok (.ref l) S') (h2 : S'[l]? = some (.ins c fs)) (hc : c ∈ cs) (h3 : fs.lookup f = some v) : eFld cs f o r S = .ok v S' := by
  rw [eFld_ap, h1, Rs.bind_ok]
  dsimp only
  rw [h2]
  dsimp only
  rw [if_pos hc, h3, Rs.ofO_some]
theorem put_at {o k : DE} {S3 : Store} {l m : Nat} {j : Int} {ys : List D} (h1 : e r S = .ok v S') (h2 : o r S' = .ok (.ref l) S2) (h3 : k r S2 = .ok (.int j) S3) (h4 : S3[l]? = some (.lst ys)) (h5 : place ys.length j = some m) : sPutR o k e r S = .next r (S3.set l (.lst (ys.set m v))) := by
  rw [sPutR_ap, h1, Rs.toS_ok, h2, Rs.toS_ok, h3, Rs.toS_ok]
  dsimp only
  rw [h4]
  dsimp only
  rw [h5]
theorem sfld_at {cs : List Str} {c f : Str} {o : DE} {l : Nat} {fs : List (Str × D)} (h1 : e r S = .ok v S') (h2 : o r S' = .ok (.ref l) S2) (h3 : S2[l]? = some (.ins c fs)) (h4 : c ∈ cs) (h5 : fs.length < 1000) : sFldD cs f o e r S = .next r (S2.set l (.ins c (putFD f v fs))) := by
  rw [sFldD_ap, h1, Rs.toS_ok, h2, Rs.toS_ok]
  dsimp only
  rw [h3]
  dsimp only
  rw [if_pos ⟨h4, h5⟩]
theorem var_at {i : Nat} {d : D} (h : r[i]? = some (.val d)) : eVar i r S = .ok d S := by rw [eVar_ap, h]
theorem app_at {o : DE} {l : Nat} {ys zs : List D} (h1 : o r S = .ok (.ref l) S') (h2 : S'[l]? = some (.lst ys)) (h3 : e r S' = .ok v S2) (h4 : S2[l]? = some (.lst zs)) (h5 : zs.length < sizeLine) : eAppR o e r S = .ok .non (S2.set l (.lst (zs ++ [v]))) := by
  rw [eAppR_ap, h1, Rs.bind_ok]
  dsimp only
  rw [h2]
  dsimp only
  rw [h3, Rs.bind_ok, h4]
  dsimp only
  rw [if_pos h5]
theorem fnD_next {np n : Nat} {b : DS} {ds : List D} {S S2 : Store} {r : Rho} (h : ds.length = np) (e : b (ds.map Sl.val ++ List.replicate (n - np) Sl.un) S = .next r S2) : fnD np n b ds S = .ok .non S2 := by
  unfold fnD
  rw [if_pos h, e]
theorem fnD_ret {np n : Nat} {b : DS} {ds : List D} {S S2 : Store} {r : Rho} {d : D} (h : ds.length = np) (e : b (ds.map Sl.val ++ List.replicate (n - np) Sl.un) S = .ret d r S2) : fnD np n b ds S = .ok d S2 := by
  unfold fnD
  rw [if_pos h, e]
end
end Dn

end
section
set_option Elab.async false
set_option linter.all false
set_option maxRecDepth 100000
set_option maxHeartbeats 4000000
/-! Tools for the plain laws: no machine here. -/
namespace Dn
open PySem
/-- a def's end by its body's -/
def Sr.fin : Sr → Rs D
  | .next _ S => .ok .non S
  | .ret d _ S => .ok d S
  | .exc c fs _ S => .exc c fs S
  | _ => .bad
@[simp] theorem fin_next (r : Rho) (S : Store) : (Sr.next r S).fin = .ok .non S := nr rfl
@[simp] theorem fin_ret (d : D) (r : Rho) (S : Store) : (Sr.ret d r S).fin = .ok d S := nr rfl
@[simp] theorem fin_exc (c : Str) (fs : List (Str × D)) (r : Rho) (S : Store) : (Sr.exc c fs r S).fin = .exc c fs S := nr rfl
@[simp] theorem fin_bad : Sr.bad.fin = .bad := nr rfl
theorem fnD_fin (np n : Nat) (b : DS) (ds : List D) (S : Store) : fnD np n b ds S = if ds.length = np then (b (ds.map Sl.val ++ List.replicate (n - np) Sl.un) S).fin else .bad := by
  unfold fnD
  split
  · cases h2 : b (ds.map Sl.val ++ List.replicate (n - np) Sl.un) S <;> rfl
  · rfl
/-- a whole number between two others -/
def wi (x : D) (a b : Int) : Bool := match x with
  | .int i => decide (a ≤ i) && decide (i ≤ b)
  | _ => false
@[simp] theorem wi_int (i a b : Int) : wi (.int i) a b = (decide (a ≤ i) && decide (i ≤ b)) := nr rfl
theorem wi_t {x : D} {a b : Int} (h : wi x a b = true) : ∃ i, x = .int i ∧ a ≤ i ∧ i ≤ b := by
  cases x with
  | int i => simp [wi] at h; exact ⟨i, rfl, h⟩
  | _ => cases h
/-- the number -/
def D.i : D → Int
  | .int i => i
  | _ => 0
@[simp] theorem i_int (i : Int) : (D.int i).i = i := nr rfl
mutual
/-- no object of the text's own within -/
def D.dt : D → Bool
  | .tup xs => D.dts xs
  | .lst xs => D.dts xs
  | .ref _ => false
  | .cls _ => false
  | .fn _ => false
  | _ => true
def D.dts : List D → Bool
  | [] => true
  | x :: xs => x.dt && D.dts xs
end
@[simp] theorem dt_tup (xs : List D) : (D.tup xs).dt = D.dts xs := rfl
@[simp] theorem dt_lst (xs : List D) : (D.lst xs).dt = D.dts xs := rfl
@[simp] theorem dts_cons (x : D) (xs : List D) : D.dts (x :: xs) = (x.dt && D.dts xs) := rfl
@[simp] theorem dts_nil : D.dts [] = true := rfl
theorem dts_mem {xs : List D} (h : D.dts xs = true) {x : D} (hx : x ∈ xs) : x.dt = true := by
  induction xs with
  | nil => cases hx
  | cons y ys ih =>
    simp at h
    rcases List.mem_cons.mp hx with e | e
    · rw [e]; exact h.1
    · exact ih h.2 e
theorem ty_dt {x : D} (h : x.dt = true) (S : Store) : ∃ t, tyName S x = some t := by
  cases x <;> first | exact ⟨_, rfl⟩ | (simp [D.dt] at h)
@[simp] theorem wkOf_tup (S : Store) (xs : List D) : wkOf S (.tup xs) = some (wkS xs) := nr rfl
@[simp] theorem wkOf_lst (S : Store) (xs : List D) : wkOf S (.lst xs) = some (wkS xs) := nr rfl
@[simp] theorem wkL_lst (S : Store) (xs : List D) : wkL S (.lst xs) = some (wkS xs) := nr rfl
@[simp] theorem tyName_non (S : Store) : tyName S .non = some "NoneType" := nr rfl
@[simp] theorem tyName_bl (S : Store) (b : Bool) : tyName S (.bl b) = some "bool" := nr rfl
@[simp] theorem tyName_int (S : Store) (i : Int) : tyName S (.int i) = some "int" := nr rfl
@[simp] theorem tyName_str (S : Store) (z : Str) : tyName S (.str z) = some "str" := nr rfl
@[simp] theorem tyName_tup (S : Store) (xs : List D) : tyName S (.tup xs) = some "tuple" := nr rfl
@[simp] theorem tyName_lst (S : Store) (xs : List D) : tyName S (.lst xs) = some "list" := nr rfl
/-! ### comprehensions that change nothing -/
theorem lcGo_fm {ok : Store → Prop} {g : DG} {t : DT} {e : DE} {r : Rho} {S : Store} {p : D → Bool} {f : D → D} (hok : ok S) : ∀ {xs : List D}, (∀ x ∈ xs, ∃ r', g x r S = some r' ∧ t r' S = .ok (p x) S ∧ (p x = true → e r' S = .ok (f x) S)) → lcGo ok g t e r xs S = .ok ((xs.filter p).map f) S
  | [], _ => by simp [lcGo, hok]
  | x :: xs, h => by
    obtain ⟨r', h1, h2, h3⟩ := h x (List.mem_cons_self ..)
    have ih := lcGo_fm hok (xs := xs) fun y hy => h y (List.mem_cons_of_mem _ hy)
    cases q : p x with
    | true => simp [lcGo, hok, h1, h2, q, h3 q, ih]
    | false => simp [lcGo, hok, h1, h2, q, ih]
theorem lcGo_map {ok : Store → Prop} {g : DG} {e : DE} {r : Rho} {S : Store} {f : D → D} (hok : ok S) {xs : List D} (h : ∀ x ∈ xs, ∃ r', g x r S = some r' ∧ e r' S = .ok (f x) S) : lcGo ok g tYesD e r xs S = .ok (xs.map f) S := by
  have := lcGo_fm (t := tYesD) (e := e) (g := g) (r := r) (p := fun _ => true) (f := f) hok (xs := xs) fun x hx => by
    obtain ⟨r', h1, h2⟩ := h x hx
    exact ⟨r', h1, rfl, fun _ => h2⟩
  rw [List.filter_eq_self.mpr (fun _ _ => rfl)] at this
  exact this
@[simp] theorem boolsOf_map {a : Type} (p : a → Bool) (xs : List a) : boolsOf (xs.map fun x => D.bl (p x)) = some (xs.map p) := by
  induction xs with
  | nil => rfl
  | cons x xs ih => simp [boolsOf, ih]
@[simp] theorem intsOf_map {a : Type} (p : a → Int) (xs : List a) : intsOf (xs.map fun x => D.int (p x)) = some (xs.map p) := by
  induction xs with
  | nil => rfl
  | cons x xs ih => simp [intsOf, ih]
/-- all([.. for x in xs]) -/
theorem all_lc {src : DE} {e : DE} {r : Rho} {S : Store} {xs : List D} {p : D → Bool} {k : Nat} (h : iSeqD src r S = .ok (wkS xs) S) (hk : k < r.length) (he : ∀ x ∈ xs, e ((r.set k .un).set k (.val x)) S = .ok (.bl (p x)) S) :
    eAll (lE (eFrz (nLc (iSeqD src) (gNameD k) tYesD e [k]))) r S = .ok (.bl (xs.all p)) S := by
  have := lcGo_map (ok := (wkS xs).ok) (g := gNameD k) (e := e) (r := r.set k .un) (S := S) (f := fun x => .bl (p x)) trivial (xs := xs) fun x hx => ⟨_, by simp [gNameD, hk], he x hx⟩
  unfold eAll
  simp only [eL1_ap, lE_ap, eFrz_ap, nLc_ap, h, Rs.bind_ok, wipeD, wkS_xs, this]
  simp
/-! ### tests pushed outwards -/
section
variable {a b : Type} {c : Prop} [Decidable c]
@[simp] theorem ite_bind (x y : Rs a) (f : a → Store → Rs b) : (if c then x else y).bind f = if c then x.bind f else y.bind f := by split <;> rfl
@[simp] theorem ite_toS (x y : Rs a) (r : Rho) (f : a → Store → Sr) : (if c then x else y).toS r f = if c then x.toS r f else y.toS r f := by split <;> rfl
@[simp] theorem ite_sbind (x y : Sr) (f : Rho → Store → Sr) : (if c then x else y).bind f = if c then x.bind f else y.bind f := by split <;> rfl
@[simp] theorem ite_fin (x y : Sr) : (if c then x else y).fin = if c then x.fin else y.fin := by split <;> rfl
@[simp] theorem ite_ok (x y : a) (S : Store) : (if c then Rs.ok x S else Rs.ok y S) = .ok (if c then x else y) S := by split <;> rfl
@[simp] theorem ite_bl (x y : Bool) : (if c then D.bl x else D.bl y) = .bl (if c then x else y) := by split <;> rfl
@[simp] theorem ite_di (x y : Int) : (if c then D.int x else D.int y) = .int (if c then x else y) := by split <;> rfl
end
theorem iRange3_at {a b c : DE} {r : Rho} {S S1 S2 S3 : Store} {i j k : Int} {w : Wk} (h1 : a r S = .ok (.int i) S1) (h2 : b r S1 = .ok (.int j) S2) (h3 : c r S2 = .ok (.int k) S3) (h : rg3 i j k = some w) : iRange3 a b c r S = .ok w S3 := by
  unfold iRange3
  rw [h1, Rs.bind_ok, h2, Rs.bind_ok, h3, Rs.bind_ok]
  show Rs.ofO (rg3 i j k) S3 = _
  rw [h, Rs.ofO_some]
/-! ### written places -/
section
variable {a b c d e f : D} {l : List D}
theorem atD_at {xs : List D} {i : Nat} (h : i < xs.length) : atD xs (i : Int) = xs[i]? := by
  simp [atD, place, h]
@[simp] theorem atD_0 : atD (a :: l) 0 = some a := atD_at (i := 0) (by simp)
@[simp] theorem atD_1 : atD (a :: b :: l) 1 = some b := atD_at (i := 1) (by simp)
@[simp] theorem atD_2 : atD (a :: b :: c :: l) 2 = some c := atD_at (i := 2) (by simp)
@[simp] theorem atD_3 : atD (a :: b :: c :: d :: l) 3 = some d := atD_at (i := 3) (by simp)
@[simp] theorem atD_4 : atD (a :: b :: c :: d :: e :: l) 4 = some e := atD_at (i := 4) (by simp)
end
end Dn

end
section
set_option Elab.async false
set_option linter.all false
set_option maxRecDepth 100000
set_option maxHeartbeats 4000000
/-! Tools: whole numbers in lists, sorted. -/
namespace Dn
open PySem
def leI (a b : Int) : Bool := !decide (b < a)
theorem leI_iff {a b : Int} : leI a b = true ↔ a ≤ b := by simp [leI]
theorem sortOk_ints (fs : List Int) : sortOk (fs.map D.int) = true := by
  unfold sortOk aliker
  simp only [Bool.and_eq_true, List.all_eq_true, Bool.or_eq_true, List.mem_map]
  refine ⟨⟨⟨?_, ?_⟩, ?_⟩, .inr ?_⟩
  · rintro _ ⟨a, _, rfl⟩
    rfl
  · rintro _ ⟨a, _, rfl⟩ _ ⟨b, _, rfl⟩
    rfl
  · rintro _ ⟨a, _, rfl⟩
    rfl
  · rintro _ ⟨a, _, rfl⟩
    rfl
theorem sortD_ints (fs : List Int) : sortD (fs.map D.int) = (fs.mergeSort leI).map D.int := by
  unfold sortD
  exact (PySem.W.sort_maps D.int fun a _ b _ => by
    show leI a b = !PySem.W.dataLt (D.int b).P (D.int a).P
    show leI a b = !PySem.W.dataLt (.int b) (.int a)
    rw [PySem.W.dataLt_int]
    rfl).symm
theorem sorted_ints (fs : List Int) : (fs.mergeSort leI).Pairwise (· ≤ ·) := by
  have := List.pairwise_mergeSort (le := leI) (fun a b c h1 h2 => by rw [leI_iff] at *; omega) (fun a b => by
    cases h : leI a b with
    | true => rfl
    | false =>
      have : ¬ a ≤ b := fun z => by rw [← leI_iff, h] at z; cases z
      simp only [Bool.false_or]
      rw [leI_iff]
      omega) fs
  exact this.imp fun h => leI_iff.mp h
theorem asc_ints {fs : List Int} (h : fs.Nodup) : (fs.mergeSort leI).Pairwise (· < ·) := by
  have h1 := sorted_ints fs
  have h2 : (fs.mergeSort leI).Nodup := (List.mergeSort_perm fs leI).nodup_iff.mpr h
  exact (h1.and h2).imp fun ⟨a, b⟩ => by omega
@[simp] theorem pls_ints (k : Nat) (fs : List Int) : D.pls k (fs.map D.int) = true := by
  induction fs with
  | nil => cases k <;> rfl
  | cons f fs ih =>
    cases k <;> simp [D.pls, D.pl, ih]
@[simp] theorem pl_int (k : Nat) (i : Int) : D.pl k (.int i) = true := by cases k <;> rfl
theorem anyI_eq (fs : List Int) (o : Int) : ((fs.map D.int).any fun z => eqD z (.int o)) = decide (o ∈ fs) := by
  induction fs with
  | nil => rfl
  | cons f fs ih =>
    rw [List.map_cons, List.any_cons, ih]
    have : eqD (.int f) (.int o) = decide (o = f) := by
      show (f == o) = _
      rw [Bool.eq_iff_iff]
      simp
      exact ⟨fun h => h.symm, fun h => h.symm⟩
    rw [this, Bool.eq_iff_iff]
    simp
theorem dts_ints (fs : List Int) : D.dts (fs.map D.int) = true := by
  induction fs with
  | nil => rfl
  | cons f fs ih => simp [ih, D.dt]
/-- pop, len and the like of sorted ones -/
theorem len_sorted (fs : List Int) : (fs.mergeSort leI).length = fs.length := List.length_mergeSort fs
theorem mem_sorted {fs : List Int} {x : Int} : x ∈ fs.mergeSort leI ↔ x ∈ fs := List.mem_mergeSort
end Dn

end
section
set_option Elab.async false
set_option linter.all false
set_option maxRecDepth 100000
set_option maxHeartbeats 4000000
namespace Dn
open PySem
theorem place_last (n : Nat) : place (n + 1) (-1) = some n := by
  have a : ¬ (0 : Int) ≤ -1 := by omega
  have b : -((n + 1 : Nat) : Int) ≤ -1 := by omega
  have c : (-1 + ((n + 1 : Nat) : Int)).toNat = n := by omega
  rw [place, if_neg a, if_pos b, c]
/-- xs[-1] -/
theorem atD_last (xs : List D) (x : D) : atD (xs ++ [x]) (-1) = some x := by
  have l : (xs ++ [x]).length = xs.length + 1 := by simp
  rw [atD, l, place_last, Option.bind_some]
  simp
abbrev Key := Int × Int
def keyD (k : Key) : D := .tup [.int k.1, .int k.2]
/-! ### keys: their order -/
def klt (a b : Key) : Bool := decide (a.1 < b.1) || (decide (a.1 = b.1) && decide (a.2 < b.2))
theorem klt_iff {a b : Key} : klt a b = true ↔ a.1 < b.1 ∨ (a.1 = b.1 ∧ a.2 < b.2) := by simp [klt]
theorem lt_key (a b : Key) : ltD (keyD a) (keyD b) = klt a b := by
  have al : ∀ i j : Int, PySem.W.alike (.int i) (.int j) = true := fun _ _ => rfl
  have eq : ∀ i j : Int, PyData.eqv (.int i) (.int j) = (i == j) := fun _ _ => rfl
  show PySem.W.dataLt (.tuple [.int a.1, .int a.2]) (.tuple [.int b.1, .int b.2]) = _
  rw [PySem.W.dataLt_tuple]
  by_cases h : a.1 = b.1
  · rw [PySem.W.dataLt_all_yes (al _ _) (by rw [eq]; simp [h])]
    by_cases h2 : a.2 = b.2
    · rw [PySem.W.dataLt_all_yes (al _ _) (by rw [eq]; simp [h2])]
      have : klt a b = false := by
        cases q : klt a b with
        | false => rfl
        | true => rw [klt_iff] at q; omega
      rw [this]
      rfl
    · rw [PySem.W.dataLt_all_no (al _ _) (by rw [eq]; simp [h2]), PySem.W.dataLt_int]
      simp [klt, h]
  · rw [PySem.W.dataLt_all_no (al _ _) (by rw [eq]; simp [h]), PySem.W.dataLt_int]
    simp [klt, h]
theorem ltOk_key (a b : Key) : ltOk (keyD a) (keyD b) = true := by
  simp [ltOk, keyD, D.pl, D.pls, D.P, D.Ps, PySem.W.alike, PySem.W.alikeAll]
theorem cmpLt_key (a b : Key) : cmpLt (keyD a) (keyD b) = some (klt a b) := by
  simp only [cmpLt, ltOk_key, if_true, lt_key]
theorem sortOk_key (r : List Key) : sortOk (r.map keyD) = true := by
  unfold sortOk aliker
  simp only [Bool.and_eq_true, List.all_eq_true, Bool.or_eq_true, List.mem_map]
  refine ⟨⟨⟨?_, ?_⟩, ?_⟩, .inl ?_⟩
  · rintro _ ⟨a, _, rfl⟩
    simp [keyD, D.pl, D.pls]
  · rintro _ ⟨a, _, rfl⟩ _ ⟨b, _, rfl⟩
    simp [keyD, D.P, D.Ps, PySem.W.alike, PySem.W.alikeAll]
  · rintro _ ⟨a, _, rfl⟩
    rfl
  · rintro _ ⟨a, _, rfl⟩
    rfl
/-- a key put into its place -/
def insK : List Key → Key → List Key
  | [], k => [k]
  | a :: r, k => if klt a k then a :: insK r k else k :: a :: r
def Srt (r : List Key) : Prop := r.Pairwise fun a b => klt a b = true
theorem klt_trans {a b c : Key} (h : klt a b = true) (k : klt b c = true) : klt a c = true := by
  rw [klt_iff] at *
  omega
theorem ins_perm (r : List Key) (k : Key) : (insK r k).Perm (r ++ [k]) := by
  induction r with
  | nil => exact List.Perm.refl _
  | cons a r ih =>
    unfold insK
    split
    · exact List.Perm.cons a ih
    · exact (List.perm_append_comm (l₁ := [k]) (l₂ := a :: r))
theorem ins_srt {r : List Key} {k : Key} (h : Srt r) (hk : ∀ a ∈ r, a.2 ≠ k.2) : Srt (insK r k) := by
  induction r with
  | nil => exact List.pairwise_singleton _ _
  | cons a r ih =>
    obtain ⟨h1, h2⟩ := List.pairwise_cons.mp h
    unfold insK
    split
    · rename_i hak
      refine List.pairwise_cons.mpr ⟨fun b hb => ?_, ih h2 fun b hb => hk b (List.mem_cons_of_mem _ hb)⟩
      have := (ins_perm r k).mem_iff.mp hb
      rcases List.mem_append.mp this with q | q
      · exact h1 b q
      · have : b = k := by simpa using q
        rw [this]; exact hak
    · rename_i hak
      have hka : klt k a = true := by
        have hne := hk a (List.mem_cons_self ..)
        rw [klt_iff] at *
        omega
      refine List.pairwise_cons.mpr ⟨fun b hb => ?_, h⟩
      rcases List.mem_cons.mp hb with q | q
      · rw [q]; exact hka
      · exact klt_trans hka (h1 b q)
def kle (a b : Key) : Bool := !klt b a
theorem sort_ins {r : List Key} {k : Key} (h : Srt r) (hk : ∀ a ∈ r, a.2 ≠ k.2) : (r ++ [k]).mergeSort kle = insK r k := by
  have tr : ∀ a b c : Key, kle a b = true → kle b c = true → kle a c = true := fun a b c h1 h2 => by
    unfold kle at *
    simp only [Bool.not_eq_true', Bool.eq_false_iff, ne_eq, klt_iff] at *
    omega
  have to : ∀ a b : Key, (kle a b || kle b a) = true := fun a b => by
    unfold kle
    cases h1 : klt b a with
    | false => rfl
    | true =>
      cases h2 : klt a b with
      | false => rfl
      | true => rw [klt_iff] at h1 h2; omega
  have s1 : ((r ++ [k]).mergeSort kle).Pairwise fun a b => kle a b = true := List.pairwise_mergeSort tr to _
  have s2 : (insK r k).Pairwise fun a b => kle a b = true := (ins_srt h hk).imp fun {a b} h => by
    unfold kle
    cases h2 : klt b a with
    | false => rfl
    | true => rw [klt_iff] at h h2; omega
  have anti : ∀ a b : Key, kle a b = true → kle b a = true → a = b := fun a b h1 h2 => by
    unfold kle at h1 h2
    simp only [Bool.not_eq_true', Bool.eq_false_iff, ne_eq, klt_iff] at h1 h2
    exact Prod.ext (by omega) (by omega)
  exact List.Perm.eq_of_pairwise (fun a b _ _ => anti a b) s1 s2 ((List.mergeSort_perm _ _).trans (ins_perm r k).symm)
theorem sortD_ins {r : List Key} {k : Key} (h : Srt r) (hk : ∀ a ∈ r, a.2 ≠ k.2) : sortD (r.map keyD ++ [keyD k]) = (insK r k).map keyD := by
  have e : r.map keyD ++ [keyD k] = (r ++ [k]).map keyD := by simp
  rw [e, ← sort_ins h hk]
  unfold sortD
  exact (PySem.W.sort_maps keyD fun a _ b _ => by
    show kle a b = !PySem.W.dataLt (keyD b).P (keyD a).P
    unfold kle
    rw [← lt_key]
    rfl).symm
/-- the law's own way -/
theorem ins_take {r : List Key} {k : Key} (h : Srt r) : r.take (r.filter fun a => klt a k).length ++ [k] ++ r.drop (r.filter fun a => klt a k).length = insK r k := by
  induction r with
  | nil => rfl
  | cons a r ih =>
    obtain ⟨h1, h2⟩ := List.pairwise_cons.mp h
    unfold insK
    cases q : klt a k with
    | true =>
      have := ih h2
      simp only [List.filter_cons, q, if_true, List.length_cons, List.take_succ_cons, List.drop_succ_cons, List.cons_append]
      rw [this]
    | false =>
      have none : (a :: r).filter (fun a => klt a k) = [] := by
        rw [List.filter_eq_nil_iff]
        intro b hb
        rcases List.mem_cons.mp hb with z | z
        · rw [z, q]; exact Bool.false_ne_true
        · intro hbk
          rw [klt_trans (h1 b z) hbk] at q
          cases q
      rw [none]
      simp
end Dn

end
section
set_option Elab.async false
set_option linter.all false
set_option maxRecDepth 100000
set_option maxHeartbeats 4000000
/-! Values that may be odd: data, dicts, an object of the text's own class. -/
namespace Dn
open PySem
theorem eIsTyI_ap (cs : List Str) (n : String) (a : DE) (r : Rho) (S : Store) : eIsTyI cs n a r S = (a r S).bind fun x S => match tyName S x with
  | some t => .ok (.bl (isTy t n)) S
  | none => match x with
    | .ref l => (match S[l]? with
      | some (.ins c _) => if c ∈ cs then .ok (.bl false) S else .bad
      | _ => .bad)
    | _ => .bad := nr rfl
@[simp] theorem eDct_ap (t : Bool) (r : Rho) (S : Store) : eDct t r S = .ok (.ref S.length) (S ++ [.dct t []]) := nr rfl
inductive Fi (c : Str) (S : Store) : D → Prop where
  | dt {x : D} (h : x.dt = true) : Fi c S x
  | dct {l : Nat} {t : Bool} {kvs : List (D × D)} (h : S[l]? = some (.dct t kvs)) : Fi c S (.ref l)
  | ins {l : Nat} {fs : List (Str × D)} (h : S[l]? = some (.ins c fs)) : Fi c S (.ref l)
def isIntD : D → Bool
  | .int _ => true
  | _ => false
def isBlD : D → Bool
  | .bl _ => true
  | _ => false
def isTupD : D → Bool
  | .tup _ => true
  | _ => false
theorem isI_int {c : Str} {S : Store} {x : D} (h : Fi c S x) {e : DE} {r : Rho} {S0 : Store} (he : e r S0 = .ok x S) :
    ∃ b, eIsTyI [c] "int" e r S0 = .ok (.bl b) S ∧ (isIntD x = true → b = true) ∧ (b = true → isIntD x = true ∨ ∃ k, x = .bl k) := by
  rw [eIsTyI_ap, he, Rs.bind_ok]
  cases h with
  | dt h => cases x <;> first | (simp [D.dt] at h; done) | simp [isTy, isIntD]
  | dct h => simp [tyName, h, isTy, isIntD]
  | ins h => simp [tyName, h, isIntD]
theorem isI_bool {c : Str} {S : Store} {x : D} (h : Fi c S x) {e : DE} {r : Rho} {S0 : Store} (he : e r S0 = .ok x S) :
    eIsTyI [c] "bool" e r S0 = .ok (.bl (isBlD x)) S := by
  rw [eIsTyI_ap, he, Rs.bind_ok]
  cases h with
  | dt h => cases x <;> first | (simp [D.dt] at h; done) | simp [isTy, isBlD]
  | dct h => simp [tyName, h, isTy, isBlD]
  | ins h => simp [tyName, h, isBlD]
theorem isI_tup {c : Str} {S : Store} {x : D} (h : Fi c S x) {e : DE} {r : Rho} {S0 : Store} (he : e r S0 = .ok x S) :
    eIsTyI [c] "tuple" e r S0 = .ok (.bl (isTupD x)) S := by
  rw [eIsTyI_ap, he, Rs.bind_ok]
  cases h with
  | dt h => cases x <;> first | (simp [D.dt] at h; done) | simp [isTy, isTupD]
  | dct h => simp [tyName, h, isTy, isTupD]
  | ins h => simp [tyName, h, isTupD]
/-- isinstance(x, int) and not isinstance(x, bool) -/
theorem isI_pure {c : Str} {S : Store} {x : D} (h : Fi c S x) {i : Nat} {r : Rho} (v : r[i]? = some (.val x)) :
    eAnd (eIsTyI [c] "int" (eVar i)) (eNot (eIsTyI [c] "bool" (eVar i))) r S = .ok (.bl (isIntD x)) S := by
  have he : eVar i r S = .ok x S := by simp [v]
  obtain ⟨b, e1, e2, e3⟩ := isI_int h he
  have e4 := isI_bool h he
  rw [eAnd_ap, e1]
  cases b with
  | false =>
    have : isIntD x = false := by
      cases q : isIntD x with
      | false => rfl
      | true => cases e2 q
    rw [this]
    simp
  | true =>
    rcases e3 rfl with q | ⟨k, rfl⟩
    · cases x <;> first | (cases q; done) | simp [e4, isIntD, isBlD]
    · simp [e4, isIntD, isBlD]
theorem Fi.app {c : Str} {S : Store} {x : D} (h : Fi c S x) (T : List SO) : Fi c (S ++ T) x := by
  cases h with
  | dt h => exact .dt h
  | dct h => exact .dct (by rw [List.getElem?_append_left (lt_of_get h)]; exact h)
  | ins h => exact .ins (by rw [List.getElem?_append_left (lt_of_get h)]; exact h)
end Dn

end
section
set_option Elab.async false
set_option linter.all false
set_option maxRecDepth 100000
set_option maxHeartbeats 4000000
/-! What is wanted of an end; only the head of a term is told. -/
namespace Dn
open PySem
section
variable {a b : Type}
/-- a mark that hangs on a term: simp lets the term be -/
inductive Tg {α : Sort u} (x : α) : Type where
  | mk
def Rs.bindD (x : Rs a) (f : a → Store → Rs b) (_ : Tg f) : Rs b := x.bind f
def Rs.toSD (x : Rs a) (r : Rho) (f : a → Store → Sr) (_ : Tg f) : Sr := x.toS r f
def Sr.bindD (x : Sr) (f : Rho → Store → Sr) (_ : Tg f) : Sr := x.bind f
@[simp ↓] theorem bind_D (x : Rs a) (f : a → Store → Rs b) : x.bind f = x.bindD f .mk := nr rfl
@[simp ↓] theorem toS_D (x : Rs a) (r : Rho) (f : a → Store → Sr) : x.toS r f = x.toSD r f .mk := nr rfl
@[simp ↓] theorem sbind_D (x : Sr) (f : Rho → Store → Sr) : x.bind f = x.bindD f .mk := nr rfl
@[simp] theorem bindD_ok (v : a) (S : Store) (f : a → Store → Rs b) (t : Tg f) : (Rs.ok v S).bindD f t = f v S := nr rfl
@[simp] theorem bindD_exc (c : Str) (fs : List (Str × D)) (S : Store) (f : a → Store → Rs b) (t : Tg f) : (Rs.exc c fs S : Rs a).bindD f t = .exc c fs S := nr rfl
@[simp] theorem bindD_bad (f : a → Store → Rs b) (t : Tg f) : (Rs.bad : Rs a).bindD f t = .bad := nr rfl
@[simp] theorem toSD_ok (v : a) (S : Store) (r : Rho) (f : a → Store → Sr) (t : Tg f) : (Rs.ok v S).toSD r f t = f v S := nr rfl
@[simp] theorem toSD_exc (c : Str) (fs : List (Str × D)) (S : Store) (r : Rho) (f : a → Store → Sr) (t : Tg f) : (Rs.exc c fs S : Rs a).toSD r f t = .exc c fs r S := nr rfl
@[simp] theorem toSD_bad (r : Rho) (f : a → Store → Sr) (t : Tg f) : (Rs.bad : Rs a).toSD r f t = .bad := nr rfl
@[simp] theorem sbindD_next (r : Rho) (S : Store) (f : Rho → Store → Sr) (t : Tg f) : (Sr.next r S).bindD f t = f r S := nr rfl
@[simp] theorem sbindD_ret (d : D) (r : Rho) (S : Store) (f : Rho → Store → Sr) (t : Tg f) : (Sr.ret d r S).bindD f t = .ret d r S := nr rfl
@[simp] theorem sbindD_brk (r : Rho) (S : Store) (f : Rho → Store → Sr) (t : Tg f) : (Sr.brk r S).bindD f t = .brk r S := nr rfl
@[simp] theorem sbindD_cont (r : Rho) (S : Store) (f : Rho → Store → Sr) (t : Tg f) : (Sr.cont r S).bindD f t = .cont r S := nr rfl
@[simp] theorem sbindD_exc (c : Str) (fs : List (Str × D)) (r : Rho) (S : Store) (f : Rho → Store → Sr) (t : Tg f) : (Sr.exc c fs r S).bindD f t = .exc c fs r S := nr rfl
@[simp] theorem sbindD_bad (f : Rho → Store → Sr) (t : Tg f) : Sr.bad.bindD f t = .bad := nr rfl
@[simp] theorem ite_bindD (c : Prop) [Decidable c] (x y : Rs a) (f : a → Store → Rs b) (t : Tg f) : (if c then x else y).bindD f t = if c then x.bindD f t else y.bindD f t := by split <;> rfl
@[simp] theorem ite_toSD (c : Prop) [Decidable c] (x y : Rs a) (r : Rho) (f : a → Store → Sr) (t : Tg f) : (if c then x else y).toSD r f t = if c then x.toSD r f t else y.toSD r f t := by split <;> rfl
@[simp] theorem ite_sbindD (c : Prop) [Decidable c] (x y : Sr) (f : Rho → Store → Sr) (t : Tg f) : (if c then x else y).bindD f t = if c then x.bindD f t else y.bindD f t := by split <;> rfl
abbrev Xs : Type := Str → List (Str × D) → Store → Prop
/-- no error -/
abbrev noE : Xs := fun _ _ _ => False
def Rs.wp (x : Rs a) (Q : a → Store → Prop) (X : Xs) : Prop := match x with
  | .ok v S => Q v S
  | .exc c fs S => X c fs S
  | .bad => False
structure Es where
  nx : Rho → Store → Prop
  rt : D → Rho → Store → Prop
  bk : Rho → Store → Prop
  ct : Rho → Store → Prop
  ex : Str → List (Str × D) → Rho → Store → Prop
def Sr.wp (x : Sr) (E : Es) : Prop := match x with
  | .next r S => E.nx r S
  | .ret d r S => E.rt d r S
  | .brk r S => E.bk r S
  | .cont r S => E.ct r S
  | .exc c fs r S => E.ex c fs r S
  | .bad => False
def Rs.wpD (x : Rs a) (Q : a → Store → Prop) (X : Xs) (_ : Tg (Q, X)) : Prop := x.wp Q X
def Sr.wpD (x : Sr) (E : Es) (_ : Tg E) : Prop := x.wp E
@[simp ↓] theorem wp_D (x : Rs a) (Q : a → Store → Prop) (X : Xs) : x.wp Q X = x.wpD Q X .mk := nr rfl
@[simp ↓] theorem swp_D (x : Sr) (E : Es) : x.wp E = x.wpD E .mk := nr rfl
@[simp] theorem wpD_ok (v : a) (S : Store) (Q : a → Store → Prop) (X : Xs) (t : Tg (Q, X)) : (Rs.ok v S).wpD Q X t = Q v S := nr rfl
@[simp] theorem wpD_exc (c : Str) (fs : List (Str × D)) (S : Store) (Q : a → Store → Prop) (X : Xs) (t : Tg (Q, X)) : (Rs.exc c fs S : Rs a).wpD Q X t = X c fs S := nr rfl
@[simp] theorem wpD_bad (Q : a → Store → Prop) (X : Xs) (t : Tg (Q, X)) : (Rs.bad : Rs a).wpD Q X t = False := nr rfl
@[simp] theorem wpD_bind (x : Rs b) (f : b → Store → Rs a) (u : Tg f) (Q : a → Store → Prop) (X : Xs) (t : Tg (Q, X)) : (x.bindD f u).wpD Q X t = x.wpD (fun v S => (f v S).wp Q X) X .mk := by cases x <;> rfl
@[simp] theorem wpD_toS (x : Rs b) (r : Rho) (f : b → Store → Sr) (u : Tg f) (E : Es) (t : Tg E) : (x.toSD r f u).wpD E t = x.wpD (fun v S => (f v S).wp E) (fun c fs S => E.ex c fs r S) .mk := by cases x <;> rfl
@[simp] theorem swpD_bind (x : Sr) (f : Rho → Store → Sr) (u : Tg f) (E : Es) (t : Tg E) : (x.bindD f u).wpD E t = x.wpD ⟨fun r S => (f r S).wp E, E.rt, E.bk, E.ct, E.ex⟩ .mk := by cases x <;> rfl
@[simp] theorem swpD_next (r : Rho) (S : Store) (E : Es) (t : Tg E) : (Sr.next r S).wpD E t = E.nx r S := nr rfl
@[simp] theorem swpD_ret (d : D) (r : Rho) (S : Store) (E : Es) (t : Tg E) : (Sr.ret d r S).wpD E t = E.rt d r S := nr rfl
@[simp] theorem swpD_brk (r : Rho) (S : Store) (E : Es) (t : Tg E) : (Sr.brk r S).wpD E t = E.bk r S := nr rfl
@[simp] theorem swpD_cont (r : Rho) (S : Store) (E : Es) (t : Tg E) : (Sr.cont r S).wpD E t = E.ct r S := nr rfl
@[simp] theorem swpD_exc (c : Str) (fs : List (Str × D)) (r : Rho) (S : Store) (E : Es) (t : Tg E) : (Sr.exc c fs r S).wpD E t = E.ex c fs r S := nr rfl
@[simp] theorem swpD_bad (E : Es) (t : Tg E) : Sr.bad.wpD E t = False := nr rfl
@[simp] theorem wpD_ite (c : Prop) [Decidable c] (x y : Rs a) (Q : a → Store → Prop) (X : Xs) (t : Tg (Q, X)) : (if c then x else y).wpD Q X t = if c then x.wpD Q X t else y.wpD Q X t := by split <;> rfl
@[simp] theorem swpD_ite (c : Prop) [Decidable c] (x y : Sr) (E : Es) (t : Tg E) : (if c then x else y).wpD E t = if c then x.wpD E t else y.wpD E t := by split <;> rfl
variable {Q : a → Store → Prop} {X : Xs} {E : Es} {S : Store} {r : Rho}
theorem wp_ok (v : a) (S : Store) (Q : a → Store → Prop) (X : Xs) : (Rs.ok v S).wp Q X = Q v S := nr rfl
theorem wp_exc (c : Str) (fs : List (Str × D)) (S : Store) (Q : a → Store → Prop) (X : Xs) : (Rs.exc c fs S : Rs a).wp Q X = X c fs S := nr rfl
theorem wp_bad (Q : a → Store → Prop) (X : Xs) : (Rs.bad : Rs a).wp Q X = False := nr rfl
theorem wp_bind (x : Rs b) (f : b → Store → Rs a) (Q : a → Store → Prop) (X : Xs) : (x.bind f).wp Q X = x.wp (fun v S => (f v S).wp Q X) X := by cases x <;> rfl
theorem wp_toS (x : Rs b) (r : Rho) (f : b → Store → Sr) (E : Es) : (x.toS r f).wp E = x.wp (fun v S => (f v S).wp E) (fun c fs S => E.ex c fs r S) := by cases x <;> rfl
theorem swp_bind (x : Sr) (f : Rho → Store → Sr) (E : Es) : (x.bind f).wp E = x.wp ⟨fun r S => (f r S).wp E, E.rt, E.bk, E.ct, E.ex⟩ := by cases x <;> rfl
theorem swp_next (r : Rho) (S : Store) (E : Es) : (Sr.next r S).wp E = E.nx r S := nr rfl
theorem swp_ret (d : D) (r : Rho) (S : Store) (E : Es) : (Sr.ret d r S).wp E = E.rt d r S := nr rfl
theorem swp_brk (r : Rho) (S : Store) (E : Es) : (Sr.brk r S).wp E = E.bk r S := nr rfl
theorem swp_cont (r : Rho) (S : Store) (E : Es) : (Sr.cont r S).wp E = E.ct r S := nr rfl
theorem swp_exc (c : Str) (fs : List (Str × D)) (r : Rho) (S : Store) (E : Es) : (Sr.exc c fs r S).wp E = E.ex c fs r S := nr rfl
theorem swp_bad (E : Es) : Sr.bad.wp E = False := nr rfl
theorem wp_ite (c : Prop) [Decidable c] (x y : Rs a) (Q : a → Store → Prop) (X : Xs) : (if c then x else y).wp Q X = if c then x.wp Q X else y.wp Q X := by split <;> rfl
theorem swp_ite (c : Prop) [Decidable c] (x y : Sr) (E : Es) : (if c then x else y).wp E = if c then x.wp E else y.wp E := by split <;> rfl
theorem Rs.wp.mono {x : Rs a} {Q Q' : a → Store → Prop} {X X' : Xs} (h : x.wp Q X) (k : ∀ v S, Q v S → Q' v S) (kx : ∀ c fs S, X c fs S → X' c fs S := by exact fun _ _ _ h => h) : x.wp Q' X' := by
  cases x with
  | ok v S => exact k v S h
  | exc c fs S => exact kx c fs S h
  | bad => exact h
theorem Sr.wp.mono {x : Sr} {E E' : Es} (h : x.wp E) (k1 : ∀ r S, E.nx r S → E'.nx r S) (k2 : ∀ d r S, E.rt d r S → E'.rt d r S) (k3 : ∀ r S, E.bk r S → E'.bk r S) (k4 : ∀ r S, E.ct r S → E'.ct r S) (k5 : ∀ c fs r S, E.ex c fs r S → E'.ex c fs r S) : x.wp E' := by
  cases x with
  | next r S => exact k1 r S h
  | ret d r S => exact k2 d r S h
  | brk r S => exact k3 r S h
  | cont r S => exact k4 r S h
  | exc c fs r S => exact k5 c fs r S h
  | bad => exact h
/-- one statement, what holds behind it, the others -/
theorem seq_cut {x y : DS} (M : Rho → Store → Prop) (h : (x r S).wp ⟨M, E.rt, E.bk, E.ct, E.ex⟩) (k : ∀ r S, M r S → (y r S).wp E) : (sSeq x y r S).wp E := by
  rw [sSeq_ap, swp_bind]
  exact h.mono k (fun _ _ _ h => h) (fun _ _ h => h) (fun _ _ h => h) fun _ _ _ _ h => h
theorem seq_wp {x y : DS} (h : (x r S).wp ⟨fun r S => (y r S).wp E, E.rt, E.bk, E.ct, E.ex⟩) : (sSeq x y r S).wp E := by
  rw [sSeq_ap, swp_bind]
  exact h
/-- an end without errors -/
theorem wp_ex {x : Rs a} (h : x.wp Q noE) : ∃ v S, x = .ok v S ∧ Q v S := by
  cases x with
  | ok v S => exact ⟨v, S, rfl, h⟩
  | exc c fs S => exact h.elim
  | bad => exact h.elim
theorem wp_eq {x : Rs a} {v : a} (h : x.wp (fun w S' => w = v ∧ S' = S) noE) : x = .ok v S := by
  obtain ⟨w, S', e, rfl, rfl⟩ := wp_ex h
  exact e
theorem wp_of {x : Rs a} {v : a} (e : x = .ok v S) (h : Q v S) : x.wp Q X := by rw [e]; exact h
theorem wp_noX {x : Rs a} (h : x.wp Q noE) : (noX x).wp Q X := by
  cases x with
  | ok v S => exact h
  | exc c fs S => exact h.elim
  | bad => exact h.elim
/-- a def -/
theorem fn_wp {np n : Nat} {b : DS} {ds : List D} {Q : D → Store → Prop} (h : ds.length = np) (k : (b (ds.map Sl.val ++ List.replicate (n - np) Sl.un) S).wp ⟨fun _ S => Q .non S, fun d _ S => Q d S, fun _ _ => False, fun _ _ => False, fun c fs _ S => X c fs S⟩) : (fnD np n b ds S).wp Q X := by
  unfold fnD
  rw [if_pos h]
  cases q : b (ds.map Sl.val ++ List.replicate (n - np) Sl.un) S <;> rw [q] at k <;> exact k
/-- a loop -/
theorem for_wp {ok : Store → Prop} {g : DG} {b : DS} (I : List D → Rho → Store → Prop) (hs : ∀ x xs r S, I (x :: xs) r S → ok S ∧ ∃ r', g x r S = some r' ∧ (b r' S).wp ⟨I xs, E.rt, E.nx, I xs, E.ex⟩) (he : ∀ r S, I [] r S → ok S ∧ E.nx r S) : ∀ {xs : List D} {r : Rho} {S : Store}, I xs r S → (forGo ok g b xs r S).wp E
  | [], r, S, h => by
    obtain ⟨h1, h2⟩ := he r S h
    simp [forGo, h1, h2]
  | x :: xs, r, S, h => by
    obtain ⟨h1, r', h2, h3⟩ := hs x xs r S h
    unfold forGo
    rw [if_pos h1, h2]
    dsimp only
    cases q : b r' S with
    | next r2 S2 => rw [q] at h3; exact for_wp I hs he h3
    | cont r2 S2 => rw [q] at h3; exact for_wp I hs he h3
    | brk r2 S2 => rw [q] at h3; exact h3
    | ret d r2 S2 => rw [q] at h3; exact h3
    | exc c fs r2 S2 => rw [q] at h3; exact h3
    | bad => rw [q] at h3; exact h3
/-- a loop by a measure -/
theorem while_wp {t : DT} {b : DS} (I : Nat → Rho → Store → Prop) (hs : ∀ k r S, I k r S → (t r S).wp (fun c S => if c then (b r S).wp ⟨fun r S => ∃ j, j < k ∧ I j r S, E.rt, E.nx, fun r S => ∃ j, j < k ∧ I j r S, E.ex⟩ else E.nx r S) (fun c fs S => E.ex c fs r S)) : ∀ {n k : Nat} {r : Rho} {S : Store}, k < n → I k r S → (whileGo t b n r S).wp E
  | 0, k, r, S, hk, _ => by omega
  | n + 1, k, r, S, hk, h => by
    have h1 := hs k r S h
    unfold whileGo
    rw [wp_toS]
    refine h1.mono fun c S h => ?_
    cases c with
    | false => exact h
    | true =>
      rw [if_pos rfl] at h ⊢
      cases q : b r S with
      | next r2 S2 => rw [q] at h; obtain ⟨j, hj, hi⟩ := h; exact while_wp I hs (by omega) hi
      | cont r2 S2 => rw [q] at h; obtain ⟨j, hj, hi⟩ := h; exact while_wp I hs (by omega) hi
      | brk r2 S2 => rw [q] at h; exact h
      | ret d r2 S2 => rw [q] at h; exact h
      | exc c fs r2 S2 => rw [q] at h; exact h
      | bad => rw [q] at h; exact h
/-- a comprehension: what is left, what is found -/
theorem lcGo_wp {ok : Store → Prop} {g : DG} {t : DT} {e : DE} {r : Rho} {Q : List D → Store → Prop} (I : List D → List D → Store → Prop)
    (hs : ∀ x xs ys S, I (x :: xs) ys S → ok S ∧ ∃ r', g x r S = some r' ∧ (t r' S).wp (fun b S => if b then (e r' S).wp (fun y S => I xs (ys ++ [y]) S) noE else I xs ys S) noE) (he : ∀ ys S, I [] ys S → ok S ∧ Q ys S) {xs : List D} {S : Store} (h : I xs [] S) : (lcGo ok g t e r xs S).wp Q X := by
  have key : ∀ (xs ys : List D) (S : Store), I xs ys S → (lcGo ok g t e r xs S).wp (fun zs S => Q (ys ++ zs) S) X := by
    intro xs
    induction xs with
    | nil =>
      intro ys S h
      obtain ⟨h1, h2⟩ := he ys S h
      simp [lcGo, h1, h2]
    | cons x xs ih =>
      intro ys S h
      obtain ⟨h1, r', h2, h3⟩ := hs x xs ys S h
      unfold lcGo
      rw [if_pos h1, h2]
      dsimp only
      rw [wp_bind]
      refine wp_noX (h3.mono fun b S h => ?_)
      cases b with
      | false =>
        rw [if_neg Bool.false_ne_true] at h ⊢
        have h := ih ys S h
        cases q : lcGo ok g t e r xs S <;> rw [q] at h <;> exact h
      | true =>
        rw [if_pos rfl] at h ⊢
        rw [wp_bind]
        refine wp_noX (h.mono fun y S h => ?_)
        have h := ih (ys ++ [y]) S h
        rw [wp_bind]
        cases q : lcGo ok g t e r xs S with
        | ok zs S2 => rw [q] at h; simpa using h
        | exc c fs S2 => rw [q] at h; exact h
        | bad => rw [q] at h; exact h
  have := key xs [] S h
  simpa using this
end
@[simp] theorem opAdd_lst (S : Store) (xs ys : List D) : opAdd S (.lst xs) (.lst ys) = if xs.length + ys.length ≤ sizeLine then some (.lst (xs ++ ys)) else none := nr rfl
@[simp] theorem opAdd_tup (S : Store) (xs ys : List D) : opAdd S (.tup xs) (.tup ys) = if xs.length + ys.length ≤ sizeLine then some (.tup (xs ++ ys)) else none := nr rfl
@[simp] theorem opAdd_str (S : Store) (a b : Str) : opAdd S (.str a) (.str b) = if a.length + b.length ≤ sizeLine then some (.str (a ++ b)) else none := nr rfl
theorem cmpEq_str {S : Store} {a b : Str} (ha : PyData.strOk a = true) (hb : PyData.strOk b = true) : cmpEq S (.str a) (.str b) = some (decide (a = b)) := by
  simp [cmpEq, flatL, D.pl, ha, hb, eqD]
  by_cases h : a = b <;> simp [h]
theorem cmpNe_str {S : Store} {a b : Str} (ha : PyData.strOk a = true) (hb : PyData.strOk b = true) : cmpNe S (.str a) (.str b) = some (!decide (a = b)) := by
  simp [cmpNe, flatL, D.pl, ha, hb, eqD]
  by_cases h : a = b <;> simp [h]
theorem eHo_ap (m : (Store → Rs D) → Store → Rs D) (b : DE) (r : Rho) (S : Store) : eHo m b r S = m (fun S' => b (deexc r) S') S := rfl
@[simp] theorem keyOf_int (i : Int) : keyOf (.int i) = some (.inl i) := nr rfl
@[simp] theorem keyOf_str (i : Str) : keyOf (.str i) = some (.inr i) := nr rfl
@[simp] theorem cmpIsN_non : cmpIsN .non = some true := nr rfl
@[simp] theorem cmpIsN_int (i : Int) : cmpIsN (.int i) = some false := nr rfl
@[simp] theorem cmpIsN_bl (i : Bool) : cmpIsN (.bl i) = some false := nr rfl
@[simp] theorem cmpIsN_tup (i : List D) : cmpIsN (.tup i) = some false := nr rfl
@[simp] theorem cmpIsN_lst (i : List D) : cmpIsN (.lst i) = some false := nr rfl
@[simp] theorem cmpIsN_str (i : Str) : cmpIsN (.str i) = some false := nr rfl
@[simp] theorem cmpIsN_ref (i : Nat) : cmpIsN (.ref i) = some false := nr rfl
@[simp] theorem iEnumAD_ap (a : DE) (r : Rho) (S : Store) : iEnumAD a r S = ((a r S).bind fun x S => Rs.ofO ((wkOf S x).map fun w => ⟨enumD 0 w.xs, w.ok⟩) S) := nr rfl
@[simp] theorem gNameD_ap (i : Nat) (v : D) (r : Rho) (S : Store) : gNameD i v r S = if i < r.length then some (r.set i (.val v)) else none := nr rfl
@[simp] theorem gsNil_ap (r : Rho) (S : Store) : gsNil [] r S = some r := nr rfl
@[simp] theorem gsCons_ap (g : DG) (h : List D → Rho → Store → Option Rho) (v : D) (vs : List D) (r : Rho) (S : Store) : gsCons g h (v :: vs) r S = (g v r S).bind fun r' => h vs r' S := nr rfl
@[simp] theorem gTupD_ap (n : Nat) (h : List D → Rho → Store → Option Rho) (xs : List D) (r : Rho) (S : Store) : gTupD n h (.tup xs) r S = if xs.length = n then h xs r S else none := nr rfl
@[simp] theorem isTy_eq (t n : String) : isTy t n = (decide (t = n) || (decide (t = "bool") && decide (n = "int"))) := nr rfl
theorem Rs.ok_wp {x : Rs a} {v : a} {S : Store} (e : x = .ok v S) : x.wp (fun w T => w = v ∧ T = S) noE := by rw [e]; exact ⟨rfl, rfl⟩
@[simp] theorem ofStr_inj (a b : String) : (Str.ofString a = Str.ofString b) = (a = b) := by
  refine propext ⟨fun h => ?_, fun h => by rw [h]⟩
  rw [Str.ofString_eq_toList, Str.ofString_eq_toList] at h
  injection h with h
  have h : a.toList.map Char.toNat = b.toList.map Char.toNat := by simpa using h
  have inj : ∀ (x y : List Char), x.map Char.toNat = y.map Char.toNat → x = y := by
    intro x
    induction x with
    | nil => intro y h; cases y with
      | nil => rfl
      | cons _ _ => cases h
    | cons c x ih =>
      intro y h
      cases y with
      | nil => cases h
      | cons d y =>
        simp only [List.map_cons, List.cons.injEq] at h
        rw [ih y h.2, Char.toNat_inj.mp h.1]
  exact String.toList_inj.mp (inj _ _ h)
mutual
/-- data of a size that is let -/
def D.sm : D → Bool
  | .tup xs => decide (xs.length ≤ 100000) && D.sms xs
  | .lst xs => decide (xs.length ≤ 100000) && D.sms xs
  | .ref _ => false
  | .cls _ => false
  | .fn _ => false
  | _ => true
def D.sms : List D → Bool
  | [] => true
  | x :: xs => x.sm && D.sms xs
end
@[simp] theorem sm_tup (xs : List D) : (D.tup xs).sm = (decide (xs.length ≤ 100000) && D.sms xs) := nr rfl
@[simp] theorem sm_lst (xs : List D) : (D.lst xs).sm = (decide (xs.length ≤ 100000) && D.sms xs) := nr rfl
@[simp] theorem sm_int (i : Int) : (D.int i).sm = true := nr rfl
@[simp] theorem sm_bl (i : Bool) : (D.bl i).sm = true := nr rfl
@[simp] theorem sm_str (i : Str) : (D.str i).sm = true := nr rfl
@[simp] theorem sm_non : D.non.sm = true := nr rfl
@[simp] theorem sms_cons (x : D) (xs : List D) : D.sms (x :: xs) = (x.sm && D.sms xs) := nr rfl
@[simp] theorem sms_nil : D.sms [] = true := nr rfl
theorem sms_mem {xs : List D} (h : D.sms xs = true) {x : D} (hx : x ∈ xs) : x.sm = true := by
  induction xs with
  | nil => cases hx
  | cons y ys ih =>
    simp at h
    rcases List.mem_cons.mp hx with e | e
    · rw [e]; exact h.1
    · exact ih h.2 e
theorem sms_of {xs : List D} (h : ∀ x ∈ xs, x.sm = true) : D.sms xs = true := by
  induction xs with
  | nil => rfl
  | cons y ys ih =>
    simp only [sms_cons, Bool.and_eq_true]
    exact ⟨h y (List.mem_cons_self ..), ih fun x hx => h x (List.mem_cons_of_mem _ hx)⟩
def isDct (S : Store) (l : Nat) : Bool := match S[l]? with
  | some (.dct _ _) => true
  | _ => false
theorem dct_of {S : Store} {l : Nat} (h : isDct S l = true) : ∃ t kvs, S[l]? = some (.dct t kvs) := by
  unfold isDct at h
  split at h
  · rename_i t kvs e; exact ⟨t, kvs, e⟩
  · cases h
/-- dicts, and instances of some classes -/
def isObj (cs : List Str) (S : Store) (l : Nat) : Bool := match S[l]? with
  | some (.dct _ _) => true
  | some (.ins c _) => decide (c ∈ cs)
  | _ => false
mutual
/-- data of at most so many items, dicts and instances of some classes in it let -/
def D.soi (cs : List Str) (b : Nat) (S : Store) : D → Bool
  | .tup xs => decide (xs.length ≤ b) && D.sois cs b S xs
  | .lst xs => decide (xs.length ≤ b) && D.sois cs b S xs
  | .ref l => isObj cs S l
  | .cls _ => false
  | .fn _ => false
  | _ => true
def D.sois (cs : List Str) (b : Nat) (S : Store) : List D → Bool
  | [] => true
  | x :: xs => x.soi cs b S && D.sois cs b S xs
end
abbrev D.sob (b : Nat) (S : Store) (x : D) : Bool := D.soi [] b S x
abbrev D.sobs (b : Nat) (S : Store) (xs : List D) : Bool := D.sois [] b S xs
/-- what stands there stays -/
def Keep (S S' : Store) : Prop := ∀ (cs : List Str) (l : Nat), isObj cs S l = true → isObj cs S' l = true
section
variable {cs : List Str} {b c : Nat} {S S' : Store}
theorem Keep.refl : Keep S S := fun _ _ h => h
theorem Keep.of (h : ∀ (l : Nat) (o : SO), (∀ xs, o ≠ .lst xs) → S[l]? = some o → S'[l]? = some o) : Keep S S' := fun cs l q => by
  unfold isObj at q ⊢
  split at q
  · rename_i e
    rw [h l _ (fun _ h => by cases h) e]
  · rename_i e
    rw [h l _ (fun _ h => by cases h) e]
    exact q
  · cases q
@[simp] theorem so_tup (xs : List D) : (D.tup xs).soi cs b S = (decide (xs.length ≤ b) && D.sois cs b S xs) := nr rfl
@[simp] theorem so_lst (xs : List D) : (D.lst xs).soi cs b S = (decide (xs.length ≤ b) && D.sois cs b S xs) := nr rfl
@[simp] theorem so_int (i : Int) : (D.int i).soi cs b S = true := nr rfl
@[simp] theorem so_bl (i : Bool) : (D.bl i).soi cs b S = true := nr rfl
@[simp] theorem so_str (i : Str) : (D.str i).soi cs b S = true := nr rfl
@[simp] theorem so_non : D.non.soi cs b S = true := nr rfl
@[simp] theorem so_cls (x : Str) : (D.cls x).soi cs b S = false := nr rfl
@[simp] theorem so_fn (x : Str) : (D.fn x).soi cs b S = false := nr rfl
theorem so_ref {l : Nat} (h : (D.ref l).soi cs b S = true) : (∃ t kvs, S[l]? = some (.dct t kvs)) ∨ ∃ c fs, S[l]? = some (.ins c fs) ∧ c ∈ cs := by
  have h : isObj cs S l = true := h
  unfold isObj at h
  split at h
  · rename_i t kvs e; exact .inl ⟨t, kvs, e⟩
  · rename_i c fs e; exact .inr ⟨c, fs, e, of_decide_eq_true h⟩
  · cases h
theorem ref_so {l : Nat} {t : Bool} {kvs : List (D × D)} (h : S[l]? = some (.dct t kvs)) : (D.ref l).soi cs b S = true := by
  show isObj cs S l = true
  unfold isObj
  rw [h]
theorem ins_so {l : Nat} {c : Str} {fs : List (Str × D)} (h : S[l]? = some (.ins c fs)) (hc : c ∈ cs) : (D.ref l).soi cs b S = true := by
  show isObj cs S l = true
  unfold isObj
  rw [h]
  exact decide_eq_true hc
@[simp] theorem sos_cons (x : D) (xs : List D) : D.sois cs b S (x :: xs) = (x.soi cs b S && D.sois cs b S xs) := nr rfl
@[simp] theorem sos_nil : D.sois cs b S [] = true := nr rfl
theorem sos_mem {xs : List D} (h : D.sois cs b S xs = true) {x : D} (hx : x ∈ xs) : x.soi cs b S = true := by
  induction xs with
  | nil => cases hx
  | cons y ys ih =>
    simp at h
    rcases List.mem_cons.mp hx with e | e
    · rw [e]; exact h.1
    · exact ih h.2 e
theorem sos_of {xs : List D} (h : ∀ x ∈ xs, x.soi cs b S = true) : D.sois cs b S xs = true := by
  induction xs with
  | nil => rfl
  | cons y ys ih =>
    simp only [sos_cons, Bool.and_eq_true]
    exact ⟨h y (List.mem_cons_self ..), ih fun x hx => h x (List.mem_cons_of_mem _ hx)⟩
theorem sos_app {xs ys : List D} (h1 : D.sois cs b S xs = true) (h2 : D.sois cs b S ys = true) : D.sois cs b S (xs ++ ys) = true := sos_of fun x hx => by
  rcases List.mem_append.mp hx with q | q
  · exact sos_mem h1 q
  · exact sos_mem h2 q
theorem sos_sub {xs ys : List D} (h1 : D.sois cs b S xs = true) (h : ∀ y ∈ ys, y ∈ xs) : D.sois cs b S ys = true := sos_of fun x hx => sos_mem h1 (h x hx)
mutual
theorem so_mono (hb : b ≤ c) (hS : Keep S S') : ∀ {x : D}, x.soi cs b S = true → x.soi cs c S' = true
  | .tup xs, h => by
    simp at h ⊢
    exact ⟨by omega, sos_mono hb hS h.2⟩
  | .lst xs, h => by
    simp at h ⊢
    exact ⟨by omega, sos_mono hb hS h.2⟩
  | .ref l, h => by
    exact hS cs l h
  | .non, _ => rfl
  | .bl _, _ => rfl
  | .int _, _ => rfl
  | .str _, _ => rfl
  | .cls _, h => by simp at h
  | .fn _, h => by simp at h
theorem sos_mono (hb : b ≤ c) (hS : Keep S S') : ∀ {xs : List D}, D.sois cs b S xs = true → D.sois cs c S' xs = true
  | [], _ => rfl
  | x :: xs, h => by
    simp at h ⊢
    exact ⟨so_mono hb hS h.1, sos_mono hb hS h.2⟩
end
end
@[simp] theorem nLc_ap' (its : DI) (g : DG) (t : DT) (e : DE) (vs : List Nat) (r : Rho) (S : Store) : nLc its g t e vs r S = ((its r S).bind fun w S => lcGo w.ok g t e (wipeD r vs) w.xs S) := nLc_ap its g t e vs r S
@[simp] theorem wipeD_nil (r : Rho) : wipeD r [] = r := nr rfl
@[simp] theorem wipeD_cons (r : Rho) (v : Nat) (vs : List Nat) : wipeD r (v :: vs) = (wipeD r vs).set v .un := nr rfl
/-- range(j) -/
theorem range1_wp {a : DE} {r : Rho} {S : Store} {Q : Wk → Store → Prop} {X : Xs} (h : (a r S).wp (fun x S => ∃ j : Int, x = .int j ∧ -1000000 ≤ j ∧ j ≤ 1000000 ∧ Q (wkS ((List.range j.toNat).map fun (k : Nat) => D.int k)) S) X) : (iRange1 a r S).wp Q X := by
  rw [iRange1_ap, wp_bind]
  refine h.mono fun x S ⟨j, e, h1, h2, q⟩ => ?_
  subst e
  dsimp only
  have b1 : rOk j = true := by
    simp only [rOk, Bool.and_eq_true, decide_eq_true_eq]
    constructor
    · have : (-(2 ^ 62) : Int) ≤ -1000000 := by decide
      omega
    · have : (1000001 : Int) ≤ 2 ^ 62 := by decide
      omega
  have b2 : j ≤ (sizeLine : Nat) := by rw [sizeLine_val]; omega
  rw [if_pos (by rw [Bool.and_eq_true]; exact ⟨b1, decide_eq_true b2⟩), wp_ok]
  have e : rangeD 0 j = (List.range j.toNat).map fun (k : Nat) => D.int k := by simp [rangeD]
  rw [e]
  exact q
theorem range2_wp {a b : DE} {r : Rho} {S : Store} {Q : Wk → Store → Prop} {X : Xs} (h : (a r S).wp (fun x S => (b r S).wp (fun y S => ∃ i j : Int, x = .int i ∧ y = .int j ∧ -1000000 ≤ i ∧ i ≤ 1000000 ∧ -1000000 ≤ j ∧ j ≤ 1000000 ∧ Q (wkS ((List.range (j - i).toNat).map fun (k : Nat) => D.int (i + k))) S) X) X) : (iRange2 a b r S).wp Q X := by
  rw [iRange2_ap, wp_bind]
  refine h.mono fun x S h => ?_
  rw [wp_bind]
  refine h.mono fun y S ⟨i, j, e1, e2, h1, h2, h3, h4, q⟩ => ?_
  subst e1 e2
  dsimp only
  have b1 : ∀ j : Int, -1000000 ≤ j → j ≤ 1000000 → rOk j = true := fun j h1 h2 => by
    simp only [rOk, Bool.and_eq_true, decide_eq_true_eq]
    constructor
    · have : (-(2 ^ 62) : Int) ≤ -1000000 := by decide
      omega
    · have : (1000001 : Int) ≤ 2 ^ 62 := by decide
      omega
  have b2 : j - i ≤ (sizeLine : Nat) := by rw [sizeLine_val]; omega
  rw [if_pos (by rw [Bool.and_eq_true, Bool.and_eq_true]; exact ⟨⟨b1 i h1 h2, b1 j h3 h4⟩, decide_eq_true b2⟩), wp_ok]
  have e : rangeD i j = (List.range (j - i).toNat).map fun (k : Nat) => D.int (i + k) := by simp [rangeD]
  rw [e]
  exact q
/-- comprehensions that change nothing, over items of a kind -/
theorem lc_fmA {α : Type} {ok : Store → Prop} {g : DG} {t : DT} {e : DE} {r : Rho} {S : Store} {enc : α → D} {p : α → Bool} {f : α → D} (hok : ok S) : ∀ {xs : List α}, (∀ x ∈ xs, ∃ r', g (enc x) r S = some r' ∧ t r' S = .ok (p x) S ∧ (p x = true → e r' S = .ok (f x) S)) → lcGo ok g t e r (xs.map enc) S = .ok ((xs.filter p).map f) S
  | [], _ => by simp [lcGo, hok]
  | x :: xs, h => by
    obtain ⟨r', h1, h2, h3⟩ := h x (List.mem_cons_self ..)
    have ih := lc_fmA hok (xs := xs) fun y hy => h y (List.mem_cons_of_mem _ hy)
    cases q : p x with
    | true => simp [lcGo, hok, h1, h2, q, h3 q, ih]
    | false => simp [lcGo, hok, h1, h2, q, ih]
theorem lc_mapA {α : Type} {ok : Store → Prop} {g : DG} {e : DE} {r : Rho} {S : Store} {enc f : α → D} (hok : ok S) {xs : List α} (h : ∀ x ∈ xs, ∃ r', g (enc x) r S = some r' ∧ e r' S = .ok (f x) S) : lcGo ok g tYesD e r (xs.map enc) S = .ok (xs.map f) S := by
  have := lc_fmA (t := tYesD) (e := e) (g := g) (r := r) (enc := enc) (p := fun _ => true) (f := f) hok (xs := xs) fun x hx => by
    obtain ⟨r', h1, h2⟩ := h x hx
    exact ⟨r', h1, rfl, fun _ => h2⟩
  rw [List.filter_eq_self.mpr (fun _ _ => rfl)] at this
  exact this
/-- each item anew: a condition of the store, one of the items -/
theorem lc_each {ok : Store → Prop} {g : DG} {e : DE} {r : Rho} {Q : List D → Store → Prop} {X : Xs} (J : Store → Prop) (P : D → Prop) {xs : List D} {S : Store} (hJ : J S) (hok : ∀ S, J S → ok S)
    (hs : ∀ x S, x ∈ xs → J S → ∃ r', g x r S = some r' ∧ (e r' S).wp (fun y S => P y ∧ J S) noE) (he : ∀ ys S, ys.length = xs.length → (∀ y ∈ ys, P y) → J S → Q ys S) : (lcGo ok g tYesD e r xs S).wp Q X := by
  refine lcGo_wp (I := fun zs ys S => (∃ k, zs = xs.drop k ∧ ys.length = k ∧ k ≤ xs.length) ∧ (∀ y ∈ ys, P y) ∧ J S) (fun x zs ys S h => ?_) (fun ys S h => ?_) ⟨⟨0, by simp⟩, by simp, hJ⟩
  · obtain ⟨⟨k, e1, e2, e3⟩, h2, h3⟩ := h
    have hk : k < xs.length := by
      rcases Nat.lt_or_ge k xs.length with q | q
      · exact q
      · rw [List.drop_eq_nil_of_le q] at e1; cases e1
    have hx : xs.drop k = xs[k] :: xs.drop (k + 1) := List.drop_eq_getElem_cons hk
    rw [hx] at e1
    cases e1
    obtain ⟨r', h4, h5⟩ := hs xs[k] S (List.getElem_mem hk) h3
    refine ⟨hok S h3, r', h4, ?_⟩
    rw [tYesD_ap, wp_ok, if_pos rfl]
    refine h5.mono fun y S h => ⟨⟨k + 1, rfl, by simp [e2], hk⟩, fun z hz => ?_, h.2⟩
    rcases List.mem_append.mp hz with q | q
    · exact h2 z q
    · rw [List.mem_singleton.mp q]; exact h.1
  · obtain ⟨⟨k, e1, e2, e3⟩, h2, h3⟩ := h
    have : xs.length ≤ k := by
      have := congrArg List.length e1
      simp at this
      omega
    exact ⟨hok S h3, he ys S (by omega) h2 h3⟩
theorem so_ref0 {S : Store} {b l : Nat} (h : (D.ref l).soi [] b S = true) : ∃ t kvs, S[l]? = some (.dct t kvs) := by
  rcases so_ref h with h | ⟨_, _, _, h⟩
  · exact h
  · cases h
theorem Keep.app {S : Store} (T : Store) : Keep S (S ++ T) := Keep.of fun l o _ e => by rw [List.getElem?_append_left (lt_of_get e), e]
theorem app_so {S : Store} {cs : List Str} {b : Nat} {x : D} (T : Store) (h : x.soi cs b S = true) : x.soi cs b (S ++ T) = true := so_mono (Nat.le_refl _) (Keep.app T) h
theorem app_sos {S : Store} {cs : List Str} {b : Nat} {x : List D} (T : Store) (h : D.sois cs b S x = true) : D.sois cs b (S ++ T) x = true := sos_mono (Nat.le_refl _) (Keep.app T) h
/-! own classes -/
@[simp] theorem eIsTyI_ap' (cs : List Str) (n : String) (a : DE) (r : Rho) (S : Store) : eIsTyI cs n a r S = ((a r S).bind fun x S => match tyName S x with
  | some t => .ok (.bl (isTy t n)) S
  | none => match x with
    | .ref l => (match S[l]? with
      | some (.ins c _) => if c ∈ cs then .ok (.bl false) S else .bad
      | _ => .bad)
    | _ => .bad) := nr rfl
@[simp] theorem eIsOwn_ap (c : Str) (cs : List Str) (a : DE) (r : Rho) (S : Store) : eIsOwn c cs a r S = ((a r S).bind fun x S => match tyName S x with
  | some _ => .ok (.bl false) S
  | none => match x with
    | .ref l => (match S[l]? with
      | some (.ins d _) => if d = c then .ok (.bl true) S else if d ∈ cs then .ok (.bl false) S else .bad
      | _ => .bad)
    | _ => .bad) := nr rfl
@[simp] theorem eOwnEq_ap (c : Str) (neg : Bool) (g : Fn) (a b : DE) (r : Rho) (S : Store) : eOwnEq c neg g a b r S = ((a r S).bind fun x S => (b r S).bind fun y S => match x with
  | .ref l => (match S[l]? with
    | some (.ins c' _) => if c' = c ∧ eqRight c S y = true then (match g [x, y] S with
        | .ok (.bl z) S => .ok (.bl (if neg then !z else z)) S
        | _ => .bad) else .bad
    | _ => .bad)
  | _ => .bad) := nr rfl
/-! numbers in rows, turned rows -/
@[simp] theorem eTupA_ap (a : DA) (r : Rho) (S : Store) : eTupA a r S = ((a r S).bind fun xs S => .ok (.tup xs) S) := nr rfl
@[simp] theorem nRg1_ap (a : DE) (r : Rho) (S : Store) : nRg1 a r S = ((a r S).bind fun x S => Rs.ofO (match x with
  | .int j => if rgOk 0 j then some (rgI 0 j) else none
  | _ => none) S) := by
  refine nr ?_
  unfold nRg1
  congr 1
  funext x S
  cases x <;> try rfl
  dsimp only
  split <;> rfl
@[simp] theorem nRg2_ap (a b : DE) (r : Rho) (S : Store) : nRg2 a b r S = ((a r S).bind fun x S => (b r S).bind fun y S => Rs.ofO (match x, y with
  | .int i, .int j => if rgOk i j then some (rgI i j) else none
  | _, _ => none) S) := by
  refine nr ?_
  unfold nRg2
  congr 1
  funext x S
  congr 1
  funext y S
  cases x <;> cases y <;> try rfl
  dsimp only
  split <;> rfl
theorem rgOk_small {i j : Int} (h0 : -1000000 ≤ i) (h1 : i ≤ 1000000) (h2 : -1000000 ≤ j) (h3 : j ≤ 1000000) : rgOk i j = true := by
  simp only [rgOk, rOk, Bool.and_eq_true, decide_eq_true_eq]
  omega
@[simp] theorem rgI_len (i j : Int) : (rgI i j).length = (j - i).toNat := by simp [rgI]
@[simp] theorem eRev_ap (a : DL) (r : Rho) (S : Store) : eRev a r S = ((a r S).bind fun c S => (Rs.ofO (c.get r S) S).bind fun xs S => .ok (if c.isT then .tup xs.reverse else .lst xs.reverse) S) := nr rfl
end Dn

end
section
set_option Elab.async false
set_option linter.all false
set_option maxRecDepth 100000
set_option maxHeartbeats 4000000
/-! application laws for simp: what DnJ5, DnJ6 brought -/
namespace Dn
open PySem
@[simp] theorem eIsTy2_ap (n m : String) (a : DE) (r : Rho) (S : Store) : eIsTy2 n m a r S = ((a r S).bind fun x S => match tyName S x with
  | some t => .ok (.bl (isTy t n || isTy t m)) S
  | none => .bad) := nr rfl
@[simp] theorem sAugF_ap (cs : List Str) (f : Str) (w : Int → Int → Int) (o a : DE) (r : Rho) (S : Store) : sAugF cs f w o a r S = ((o r S).toS r fun p S => match p with
  | .ref l => (match S[l]? with
    | some (.ins c fs) => if c ∈ cs then (match fs.lookup f with
      | some (.int x) => (a r S).toS r fun y S => (match y with
        | .int j => (match S[l]? with
          | some (.ins c' fs') => if c' = c ∧ fs'.length < 1000 then .next r (S.set l (.ins c' (putFD f (.int (w x j)) fs'))) else .bad
          | _ => .bad)
        | _ => .bad)
      | _ => .bad) else .bad
    | _ => .bad)
  | _ => .bad) := nr rfl
@[simp] theorem sAugR_ap (f : Int → Int → Int) (o k a : DE) (r : Rho) (S : Store) : sAugR f o k a r S = ((o r S).toS r fun p S => (k r S).toS r fun n S => match p, n with
  | .ref l, .int j => (match S[l]? with
    | some (.lst xs) => (match atD xs j with
      | some (.int x) => (a r S).toS r fun y S => (match y with
        | .int z => (match S[l]? with
          | some (.lst ys) => (match place ys.length j with
            | some m => .next r (S.set l (.lst (ys.set m (.int (f x z)))))
            | none => .bad)
          | _ => .bad)
        | _ => .bad)
      | _ => .bad)
    | _ => .bad)
  | _, _ => .bad) := nr rfl
@[simp] theorem eLenSet_ap (a : DL) (r : Rho) (S : Store) : eLenSet a r S = ((a r S).bind fun c S => Rs.ofO (if c.isT then none else (c.get r S).bind fun xs => (intsOf xs).bind fun ns => if ns.length ≤ 4000 then some (.int (ddI ns).length) else none) S) := nr rfl
@[simp] theorem eLenSetT_ap (a : DL) (r : Rho) (S : Store) : eLenSetT a r S = ((a r S).bind fun c S => Rs.ofO (if c.isT then none else (c.get r S).bind fun xs => (xs.mapM intT).bind fun ks => if ks.length < 64 then some (.int (ddT ks).length) else none) S) := nr rfl
@[simp] theorem eDc_ap (its : DI) (g : DG) (t : DT) (k v : DE) (vs : List Nat) (r : Rho) (S : Store) : eDc its g t k v vs r S = ((its r S).bind fun w S => dcGo w.ok g t k v S.length (wipeD r vs) w.xs (S ++ [.dct false []])) := nr rfl
@[simp] theorem eLenD_ap (d : DE) (r : Rho) (S : Store) : eLenD d r S = ((d r S).bind fun x S => match dctOf S x with
  | some z => .ok (.int z.2.2.length) S
  | none => .bad) := nr rfl
@[simp] theorem fldAt_ap (cs : List Str) (f : Str) (o : DE) (y : D) (r : Rho) (S : Store) : fldAt cs f o y r S = ((o r S).toS r fun p S => match p with
  | .ref l => (match S[l]? with
    | some (.ins c fs) => if c ∈ cs ∧ fs.length < 1000 then .next r (S.set l (.ins c (putFD f y fs))) else .bad
    | _ => .bad)
  | _ => .bad) := nr rfl
@[simp] theorem sAsgFld_ap (da db : DE) (g : DG) (cs : List Str) (f : Str) (o : DE) (r : Rho) (S : Store) : sAsgFld da db g cs f o r S = ((da r S).toS r fun x S => (db r S).toS r fun y S => match g x r S with
  | some r' => fldAt cs f o y r' S
  | none => .bad) := nr rfl
end Dn

end
section
set_option Elab.async false
set_option linter.all false
set_option maxRecDepth 100000
set_option maxHeartbeats 4000000
/-! dicts with whole numbers as keys: what they are worth -/
namespace Dn
open PySem
@[simp] theorem nMul_ap (da db : DE) (r : Rho) (S : Store) : nMul da db r S = ((da r S).bind fun x S => (db r S).bind fun y S => match y with
  | .int k => (match listOf S x with
    | some xs => if decide (-(2 ^ 63) ≤ k) && decide (k < 2 ^ 63) && decide (xs.length * k.toNat ≤ sizeLine) then .ok (List.replicate k.toNat xs).flatten S else .bad
    | none => .bad)
  | _ => .bad) := nr rfl
theorem cmpLe_key (a b : Key) : cmpLe (keyD a) (keyD b) = some (!klt b a) := by
  simp only [cmpLe, ltOk_key, if_true, lt_key]
abbrev KI := List (Int × D)
def encI (kvs : KI) : List (D × D) := kvs.map fun p => (.int p.1, p.2)
def putI (kvs : KI) (i : Int) (v : D) : KI := if i ∈ kvs.map (·.1) then kvs.map fun p => if p.1 = i then (p.1, v) else p else kvs ++ [(i, v)]
def getI (kvs : KI) (i : Int) : Option D := (kvs.find? fun p => decide (p.1 = i)).map (·.2)
@[simp] theorem encI_nil : encI [] = [] := nr rfl
@[simp] theorem encI_len (kvs : KI) : (encI kvs).length = kvs.length := by simp [encI]
theorem dGet_I (kvs : KI) (i : Int) : dGet false (encI kvs) (.int i) = some (getI kvs i) := by
  simp only [dGet, Bool.false_eq_true, if_false, keyOf_int, Option.map_some, getKV, getI, encI, List.find?_map, Option.map_map]
  congr 1
  have : (fun p : D × D => decide (keyOf p.1 = some (Sum.inl i))) ∘ (fun p : Int × D => (D.int p.1, p.2)) = fun p => decide (p.1 = i) := by
    funext p; simp
  rw [this]
  rfl
theorem dPut_I (kvs : KI) (i : Int) (v : D) : dPut false (encI kvs) (.int i) v = some (encI (putI kvs i v)) := by
  have this : ((encI kvs).any fun p => decide (keyOf p.1 = some (Sum.inl i))) = decide (i ∈ kvs.map (·.1)) := by
    unfold encI
    induction kvs with
    | nil => simp
    | cons p kvs ih =>
      rw [List.map_cons, List.any_cons, ih, List.map_cons]
      by_cases e : p.1 = i
      · subst e; simp
      · have : ¬ i = p.1 := fun z => e z.symm
        simp [e, this]
  show some (putKV keyOf (encI kvs) (.int i) (.inl i) v) = _
  congr 1
  unfold putKV putI
  by_cases q : i ∈ kvs.map (·.1)
  · rw [if_pos (by rw [this]; simp [q]), if_pos q]
    unfold encI
    rw [List.map_map, List.map_map]
    congr 1
    funext p
    by_cases e : p.1 = i <;> simp [e]
  · rw [if_neg (by rw [this]; simp [q]), if_neg q]
    simp [encI]
theorem putI_keys (kvs : KI) (i : Int) (v : D) : (putI kvs i v).map (·.1) = if i ∈ kvs.map (·.1) then kvs.map (·.1) else kvs.map (·.1) ++ [i] := by
  unfold putI
  split
  · rw [List.map_map]
    congr 1
    funext p
    simp only [Function.comp]
    split <;> rfl
  · simp
theorem getI_putI (kvs : KI) (i j : Int) (v : D) : getI (putI kvs i v) j = if i = j then some v else getI kvs j := by
  unfold putI getI
  by_cases q : i ∈ kvs.map (·.1)
  · rw [if_pos q]
    induction kvs with
    | nil => cases q
    | cons p kvs ih =>
      simp only [List.map_cons, List.find?_cons]
      by_cases e : p.1 = i
      · by_cases e2 : i = j
        · subst e2; simp [e]
        · simp only [e, if_true, decide_eq_false e2, if_neg e2]
          by_cases q2 : i ∈ kvs.map (·.1)
          · have := ih q2; rw [if_neg e2] at this; exact this
          · congr 1
            have : (kvs.map fun p => if p.1 = i then (p.1, v) else p) = kvs := by
              conv => rhs; rw [← List.map_id kvs]
              refine List.map_congr_left fun p hp => ?_
              rw [if_neg fun z => q2 (by rw [← z]; exact List.mem_map_of_mem hp)]
              rfl
            rw [this]
      · have q2 : i ∈ kvs.map (·.1) := by
          simp only [List.map_cons, List.mem_cons] at q
          rcases q with z | z
          · exact absurd z.symm e
          · exact z
        have := ih q2
        simp only [if_neg e]
        by_cases e3 : p.1 = j
        · have e4 : ¬ i = j := fun z => e (by rw [e3, z])
          simp [e3, e4]
        · simp only [decide_eq_false e3]
          exact this
  · rw [if_neg q, List.find?_append]
    by_cases e2 : i = j
    · subst e2
      have : kvs.find? (fun p => decide (p.1 = i)) = none := by
        rw [List.find?_eq_none]
        intro p hp z
        simp at z
        exact q (by rw [← z]; exact List.mem_map_of_mem hp)
      simp [this]
    · simp [e2]
theorem getI_none {kvs : KI} {i : Int} : getI kvs i = none ↔ i ∉ kvs.map (·.1) := by
  unfold getI
  rw [Option.map_eq_none_iff, List.find?_eq_none]
  simp only [decide_eq_true_eq, List.mem_map, not_exists, not_and]
theorem getI_some {kvs : KI} {i : Int} : (getI kvs i).isSome = decide (i ∈ kvs.map (·.1)) := by
  cases q : getI kvs i with
  | none => rw [getI_none] at q; simp [q]
  | some v =>
    have : i ∈ kvs.map (·.1) := by
      refine Classical.byContradiction fun h => ?_
      rw [← getI_none, q] at h; cases h
    simp [this]
/-- what a dict comprehension makes -/
def foldI {α : Type} (f : α → Int) (h : α → D) (kvs : KI) (ys : List α) : KI := ys.foldl (fun a y => putI a (f y) (h y)) kvs
section
variable {α : Type} {f : α → Int} {h : α → D}
theorem foldI_cons (kvs : KI) (y : α) (ys : List α) : foldI f h kvs (y :: ys) = foldI f h (putI kvs (f y) (h y)) ys := nr rfl
theorem putI_len (kvs : KI) (i : Int) (v : D) : (putI kvs i v).length ≤ kvs.length + 1 := by
  unfold putI; split <;> simp
theorem foldI_len : ∀ (ys : List α) (kvs : KI), (foldI f h kvs ys).length ≤ kvs.length + ys.length
  | [], kvs => Nat.le_refl _
  | y :: ys, kvs => by
    rw [foldI_cons]
    have a := foldI_len ys (putI kvs (f y) (h y))
    have b := putI_len kvs (f y) (h y)
    simp only [List.length_cons]; omega
theorem foldI_nodup : ∀ (ys : List α) (kvs : KI), (kvs.map (·.1)).Nodup → ((foldI f h kvs ys).length = kvs.length + ys.length ↔ (kvs.map (·.1) ++ ys.map f).Nodup)
  | [], kvs, hn => by simp [foldI, hn]
  | y :: ys, kvs, hn => by
    rw [foldI_cons]
    by_cases q : f y ∈ kvs.map (·.1)
    · have e : (putI kvs (f y) (h y)).length = kvs.length := by unfold putI; rw [if_pos q]; simp
      have a := foldI_len (f := f) (h := h) ys (putI kvs (f y) (h y))
      constructor
      · intro z; simp only [List.length_cons] at z; omega
      · intro z
        rw [List.nodup_append] at z
        exact absurd rfl (z.2.2 _ q _ (by simp))
    · have e : (putI kvs (f y) (h y)).length = kvs.length + 1 := by unfold putI; rw [if_neg q]; simp
      have k : (putI kvs (f y) (h y)).map (·.1) = kvs.map (·.1) ++ [f y] := by rw [putI_keys, if_neg q]
      have hn' : ((putI kvs (f y) (h y)).map (·.1)).Nodup := by
        rw [k, List.nodup_append]
        exact ⟨hn, by simp, fun a ha b hb => by simp at hb; subst hb; exact fun z => q (by rw [← z]; exact ha)⟩
      have ih := foldI_nodup ys _ hn'
      rw [e, k] at ih
      simp only [List.length_cons, List.map_cons, List.append_assoc, List.singleton_append] at ih ⊢
      rw [← ih]
      omega
theorem foldI_dist (ys : List α) : (foldI f h [] ys).length = ys.length ↔ (ys.map f).Nodup := by
  have := foldI_nodup (f := f) (h := h) ys [] List.nodup_nil
  simpa using this
theorem dcGo_I {ok : Store → Prop} {g : DG} {t : DT} {k v : DE} {l : Nat} {r : Rho} {S : Store} {enc : α → D} (hl : l < S.length) (hok : ∀ S, ok S) : ∀ (ys : List α) (kvs : KI), S[l]? = some (.dct false (encI kvs)) → kvs.length + ys.length ≤ sizeLine →
    (∀ y ∈ ys, ∀ kvs', ∃ r', g (enc y) r (S.set l (.dct false (encI kvs'))) = some r' ∧ t r' (S.set l (.dct false (encI kvs'))) = .ok true (S.set l (.dct false (encI kvs'))) ∧ k r' (S.set l (.dct false (encI kvs'))) = .ok (.int (f y)) (S.set l (.dct false (encI kvs'))) ∧ v r' (S.set l (.dct false (encI kvs'))) = .ok (h y) (S.set l (.dct false (encI kvs')))) →
    dcGo ok g t k v l r (ys.map enc) S = .ok (.ref l) (S.set l (.dct false (encI (foldI f h kvs ys))))
  | [], kvs, hS, _, _ => by
    have : S.set l (.dct false (encI kvs)) = S := set_same hS
    show dcGo ok g t k v l r [] S = .ok (.ref l) (S.set l (.dct false (encI kvs)))
    rw [this]
    simp [dcGo, hok S]
  | y :: ys, kvs, hS, hz, hp => by
    obtain ⟨r', e1, e2, e3, e4⟩ := hp y (List.mem_cons_self ..) kvs
    have : S.set l (.dct false (encI kvs)) = S := set_same hS
    rw [this] at e1 e2 e3 e4
    have lt : kvs.length < sizeLine := by simp only [List.length_cons] at hz; omega
    have ih := dcGo_I (ok := ok) (g := g) (t := t) (k := k) (v := v) (r := r) (S := S.set l (.dct false (encI (putI kvs (f y) (h y))))) (enc := enc) (l := l) (by simpa using hl) hok ys (putI kvs (f y) (h y)) (by simp [hl]) (by have := putI_len kvs (f y) (h y); simp only [List.length_cons] at hz; omega) (fun z hz' kvs' => by
      have := hp z (List.mem_cons_of_mem _ hz') kvs'
      simpa using this)
    rw [List.map_cons]
    unfold dcGo
    rw [if_pos (hok S), e1]
    dsimp only
    rw [e2, show noX (Rs.ok true S) = Rs.ok true S from rfl, Rs.bind_ok, if_pos rfl, e3, show noX (Rs.ok (D.int (f y)) S) = Rs.ok (D.int (f y)) S from rfl, Rs.bind_ok, e4, show noX (Rs.ok (h y) S) = Rs.ok (h y) S from rfl, Rs.bind_ok, hS]
    dsimp only
    rw [encI_len, if_pos lt, dPut_I]
    dsimp only
    rw [ih, List.set_set]
    rfl
end
/-- a comprehension whose items leave what matters of the store -/
theorem lc_mapJ {α : Type} {ok : Store → Prop} {g : DG} {e : DE} {r : Rho} {Q : List D → Store → Prop} {X : Xs} {enc f : α → D} (J : Store → Prop) {xs : List α} {S : Store} (hJ : J S) (hok : ∀ S, J S → ok S)
    (hs : ∀ x S, x ∈ xs → J S → ∃ r', g (enc x) r S = some r' ∧ (e r' S).wp (fun y S => y = f x ∧ J S) noE) (he : ∀ S, J S → Q (xs.map f) S) : (lcGo ok g tYesD e r (xs.map enc) S).wp Q X := by
  refine lcGo_wp (I := fun zs ys S => (∃ us vs, xs = us ++ vs ∧ zs = vs.map enc ∧ ys = us.map f) ∧ J S) (fun x zs ys S h => ?_) (fun ys S h => ?_) ⟨⟨[], xs, rfl, rfl, rfl⟩, hJ⟩
  · obtain ⟨⟨us, vs, e1, e2, e3⟩, h3⟩ := h
    cases vs with
    | nil => cases e2
    | cons v vs =>
      simp only [List.map_cons, List.cons.injEq] at e2
      obtain ⟨rfl, rfl⟩ := e2
      obtain ⟨r', k1, k2⟩ := hs v S (by rw [e1]; simp) h3
      refine ⟨hok S h3, r', k1, ?_⟩
      rw [show tYesD r' S = Rs.ok true S from rfl, wp_ok, if_pos rfl]
      refine k2.mono fun y S' ⟨q1, q2⟩ => ⟨⟨us ++ [v], vs, by rw [e1]; simp, rfl, by rw [e3, q1]; simp⟩, q2⟩
  · obtain ⟨⟨us, vs, e1, e2, e3⟩, h3⟩ := h
    have : vs = [] := by simpa using e2.symm
    subst this
    refine ⟨hok S h3, ?_⟩
    rw [e3]
    simp at e1
    subst e1
    exact he S h3
end Dn

end
section
set_option Elab.async false
set_option linter.all false
set_option maxRecDepth 100000
set_option maxHeartbeats 4000000
/-! the plain law of breaches -/
namespace L54
open PySem Dn
abbrev Row := Int × Int × Int
def snt (n : Int) (r : Row) (b : Int) : Int := min b (r.1 + r.2.1 * b / n)
def okRow (n : Int) (r : Row) : Prop := 1 ≤ r.1 ∧ r.1 ≤ 20 ∧ 0 ≤ r.2.1 ∧ r.2.1 ≤ n ∧ 0 ≤ r.2.2 ∧ r.2.2 ≤ 7
def sntO (n : Int) : Option Row → Int → Int
  | none, _ => 0
  | some r, b => snt n r b
abbrev Strm := List (List Int)
def lotA (s : Strm) (j : Nat) : List Int := s.getD j []
def at1 (s : Strm) (j : Nat) (i : Int) : Int := if i ∈ lotA s j then 1 else 0
theorem at1_01 (s : Strm) (j : Nat) (i : Int) : at1 s j i = 0 ∨ at1 s j i = 1 := by
  unfold at1; split <;> simp
/-- how many in the k beats up to a beat -/
def W (s : Strm) (i : Int) (b : Nat) : Nat → Int
  | 0 => 0
  | k + 1 => W s i b k + at1 s (b - k) i
theorem W_le (s : Strm) (i : Int) (b : Nat) : ∀ k, 0 ≤ W s i b k ∧ W s i b k ≤ k
  | 0 => by simp [W]
  | k + 1 => by
    have := W_le s i b k
    have h := at1_01 s (b - k) i
    simp only [W]
    omega
def bad (n : Int) (row : Option Row) (s : Strm) (i : Int) (b k : Nat) : Bool := decide (sntO n row k < W s i b k)
def brk (n : Int) (row : Option Row) (s : Strm) (i : Int) (b : Nat) : Option Nat := (List.range (b + 1)).find? fun k => bad n row s i b (k + 1)
/-- a send's step -/
def Lv (n t : Int) (s : Strm) (i : Int) : Nat → Int
  | 0 => 0
  | j + 1 => Lv n t s i j + n * at1 s j i - t
theorem lv_W (n t : Int) (s : Strm) (i : Int) (b : Nat) : ∀ k, k ≤ b + 1 → Lv n t s i (b + 1) - Lv n t s i (b + 1 - k) = n * W s i b k - t * k
  | 0, _ => by simp [W]
  | k + 1, h => by
    have ih := lv_W n t s i b k (by omega)
    obtain ⟨m, hm⟩ : ∃ m, b - k = m := ⟨_, rfl⟩
    have e1 : b + 1 - (k + 1) = m := by omega
    have e2 : b + 1 - k = m + 1 := by omega
    rw [e2] at ih
    rw [e1]
    simp only [W, Lv, hm] at ih ⊢
    have d1 : n * (W s i b k + at1 s m i) = n * W s i b k + n * at1 s m i := Int.mul_add _ _ _
    have d2 : t * ((k + 1 : Nat) : Int) = t * k + t := by rw [Int.natCast_add, Int.mul_add]; simp
    rw [d1, d2]
    omega
theorem bad_lv {n : Int} {r : Row} {s : Strm} {i : Int} {b m : Nat} (hn : 0 < n) (hm : m ≤ b) : bad n (some r) s i b (b - m + 1) = decide (Lv n r.2.1 s i m < Lv n r.2.1 s i (b + 1) - n * r.1) := by
  have e := lv_W n r.2.1 s i b (b - m + 1) (by omega)
  rw [show b + 1 - (b - m + 1) = m by omega] at e
  have hw := (W_le s i b (b - m + 1)).2
  unfold bad
  simp only [sntO, snt]
  generalize W s i b (b - m + 1) = v at *
  generalize hk : ((b - m + 1 : Nat) : Int) = k at *
  have key : r.2.1 * k / n < v - r.1 ↔ r.2.1 * k < (v - r.1) * n := Int.ediv_lt_iff_lt_mul hn
  have d : (v - r.1) * n = n * v - n * r.1 := by rw [Int.sub_mul, Int.mul_comm v, Int.mul_comm r.1]
  rw [d] at key
  refine decide_eq_decide.mpr ?_
  generalize r.2.1 * k / n = q at *
  constructor
  · intro h
    have : r.1 + q < v := by omega
    have := key.mp (by omega)
    omega
  · intro h
    have := key.mpr (by omega)
    omega
theorem brk_none {n : Int} {row : Option Row} {s : Strm} {i : Int} {b : Nat} : brk n row s i b = none ↔ ∀ m ≤ b, bad n row s i b (b - m + 1) = false := by
  unfold brk
  rw [List.find?_eq_none]
  constructor
  · intro h m hm
    have := h (b - m) (List.mem_range.mpr (by omega))
    simpa using this
  · intro h k hk
    have := h (b - k) (by omega)
    rw [show b - (b - k) = k by have := List.mem_range.mp hk; omega] at this
    simpa using this
theorem find_first {p : Nat → Bool} : ∀ {N k : Nat}, k < N → p k = true → (∀ j < k, p j = false) → (List.range N).find? p = some k
  | N, k, hk, h1, h2 => by
    rw [List.find?_range_eq_some]
    exact ⟨h1, by simpa using hk, fun j hj => by simpa using h2 j hj⟩
theorem brk_some {n : Int} {row : Option Row} {s : Strm} {i : Int} {b m : Nat} (hm : m ≤ b) (h1 : bad n row s i b (b - m + 1) = true) (h2 : ∀ j ≤ b, bad n row s i b (b - j + 1) = true → j ≤ m) : brk n row s i b = some (b - m) := by
  refine find_first (by omega) h1 fun j hj => ?_
  cases q : bad n row s i b (j + 1) with
  | false => rfl
  | true =>
    have := h2 (b - j) (by omega) (by rw [show b - (b - j) = j by omega]; exact q)
    omega
/-! the first breach -/
def brLine (n : Int) (s : Strm) (b : Nat) : Nat → List (Option Row) → Option D
  | _, [] => none
  | i, r :: rs => match brk n r s i b with
    | some k => some (.tup [.int i, .int ((b - k : Nat) : Int), .int b])
    | none => brLine n s b (i + 1) rs
def brGo (n : Int) (rows : List (Option Row)) (s : Strm) : Nat → Nat → D
  | _, 0 => .non
  | b, m + 1 => match brLine n s b 0 rows with
    | some d => d
    | none => brGo n rows s (b + 1) m
def brD (n : Int) (rows : List (Option Row)) (s : Strm) : D := brGo n rows s 0 s.length
theorem brLine_none {n : Int} {s : Strm} {b : Nat} : ∀ {rs : List (Option Row)} {i : Nat}, (∀ j (h : j < rs.length), brk n rs[j] s ((i + j : Nat) : Int) b = none) → brLine n s b i rs = none
  | [], _, _ => rfl
  | r :: rs, i, h => by
    have h0 := h 0 (by simp)
    simp at h0
    simp only [brLine, h0]
    exact brLine_none fun j hj => by
      have := h (j + 1) (by simpa using hj)
      simpa [Nat.add_comm, Nat.add_left_comm] using this
theorem brD_none {n : Int} {rows : List (Option Row)} {s : Strm} (h : ∀ b, b < s.length → ∀ j (hj : j < rows.length), brk n rows[j] s (j : Int) b = none) : brD n rows s = .non := by
  have key : ∀ m b, b + m = s.length → brGo n rows s b m = .non := by
    intro m
    induction m with
    | zero => intro b _; rfl
    | succ m ih =>
      intro b hb
      have : brLine n s b 0 rows = none := brLine_none fun j hj => by simpa using h b (by omega) j hj
      simp only [brGo, this]
      exact ih (b + 1) (by omega)
  exact key s.length 0 (by omega)
theorem snt_mono {n : Int} {r : Row} {a b : Int} (hn : 0 < n) (hr : okRow n r) (h : a ≤ b) : snt n r a ≤ snt n r b := by
  have : r.2.1 * a / n ≤ r.2.1 * b / n := Int.ediv_le_ediv hn (Int.mul_le_mul_of_nonneg_left h hr.2.2.1)
  unfold snt; omega
end L54

end
section
set_option Elab.async false
set_option linter.all false
set_option maxRecDepth 100000
set_option maxHeartbeats 4000000
namespace L54
open PySem Dn
/-- all windows up to a beat are let -/
def OkB (n : Int) (row : Option Row) (s : Strm) (i : Int) (b : Nat) : Prop := ∀ k, k ≤ b + 1 → W s i b k ≤ sntO n row k
theorem sntO_mono {n : Int} {row : Option Row} {a b : Int} (hn : 0 < n) (hr : ∀ r, row = some r → okRow n r) (h : a ≤ b) : sntO n row a ≤ sntO n row b := by
  cases row with
  | none => exact Int.le_refl _
  | some r => exact snt_mono hn (hr r rfl) h
theorem sntO_0 {n : Int} {row : Option Row} (hr : ∀ r, row = some r → okRow n r) : 0 ≤ sntO n row 0 := by
  cases row with
  | none => exact Int.le_refl _
  | some r =>
    have := (hr r rfl).1
    simp only [sntO, snt, Int.mul_zero, Int.zero_ediv]; omega
theorem okb_brk {n : Int} {row : Option Row} {s : Strm} {i : Int} {b : Nat} (h : OkB n row s i b) : brk n row s i b = none := brk_none.mpr fun m hm => by
  have := h (b - m + 1) (by omega)
  unfold bad
  simp only [decide_eq_false_iff_not]
  omega
theorem W_congr {s s' : Strm} {i : Int} {b : Nat} (h : ∀ j ≤ b, lotA s j = lotA s' j) : ∀ k, k ≤ b + 1 → W s i b k = W s' i b k
  | 0, _ => rfl
  | k + 1, hk => by
    simp only [W, W_congr h k (by omega), at1, h (b - k) (by omega)]
theorem okb_congr {n : Int} {row : Option Row} {s s' : Strm} {i : Int} {b : Nat} (h : ∀ j ≤ b, lotA s j = lotA s' j) (o : OkB n row s i b) : OkB n row s' i b := fun k hk => by
  rw [← W_congr h k hk]; exact o k hk
/-- a beat at which the line rests -/
theorem W_rest {s : Strm} {i : Int} {b : Nat} (h : at1 s (b + 1) i = 0) : ∀ k, W s i (b + 1) (k + 1) = W s i b k
  | 0 => by simp [W, h]
  | k + 1 => by
    have ih := W_rest h k
    show W s i (b + 1) (k + 1) + at1 s (b + 1 - (k + 1)) i = W s i b k + at1 s (b - k) i
    rw [ih, show b + 1 - (k + 1) = b - k by omega]
theorem okb_rest {n : Int} {row : Option Row} {s : Strm} {i : Int} {b : Nat} (hn : 0 < n) (hr : ∀ r, row = some r → okRow n r) (h : at1 s (b + 1) i = 0) (o : OkB n row s i b) : OkB n row s i (b + 1) := fun k hk => by
  cases k with
  | zero => exact sntO_0 hr
  | succ k =>
    rw [W_rest h]
    have := o k (by omega)
    have m := sntO_mono (n := n) (row := row) (a := k) (b := ((k + 1 : Nat) : Int)) hn hr (by omega)
    omega
theorem okb_rest0 {n : Int} {row : Option Row} {s : Strm} {i : Int} (hn : 0 < n) (hr : ∀ r, row = some r → okRow n r) (h : at1 s 0 i = 0) : OkB n row s i 0 := fun k hk => by
  have z := sntO_0 (n := n) (row := row) hr
  match k, hk with
  | 0, _ => exact z
  | 1, _ =>
    have m := sntO_mono (n := n) (row := row) (a := 0) (b := ((1 : Nat) : Int)) hn hr (by omega)
    simp only [W, h]; omega
/-- the windows that begin with a send are enough -/
theorem okb_sends {n : Int} {row : Option Row} {s : Strm} {i : Int} {b : Nat} (hn : 0 < n) (hr : ∀ r, row = some r → okRow n r) (h : ∀ j ≤ b, i ∈ lotA s j → W s i b (b - j + 1) ≤ sntO n row ((b - j + 1 : Nat) : Int)) : OkB n row s i b := by
  intro k
  induction k with
  | zero => intro _; exact sntO_0 hr
  | succ k ih =>
    intro hk
    by_cases q : i ∈ lotA s (b - k)
    · have := h (b - k) (by omega) q
      rw [show b - (b - k) + 1 = k + 1 by omega] at this
      exact this
    · have a : at1 s (b - k) i = 0 := by unfold at1; rw [if_neg q]
      have := ih (by omega)
      have m := sntO_mono (n := n) (row := row) (a := k) (b := ((k + 1 : Nat) : Int)) hn hr (by omega)
      simp only [W, a]; omega
/-- the beats at which a line sends -/
def cm (s : Strm) (i : Int) (L : Nat) : List Nat := (List.range L).filter fun j => decide (i ∈ lotA s j)
theorem cm_succ (s : Strm) (i : Int) (L : Nat) : cm s i (L + 1) = cm s i L ++ (if i ∈ lotA s L then [L] else []) := by
  unfold cm
  rw [List.range_succ, List.filter_append]
  congr 1
  by_cases h : i ∈ lotA s L <;> simp [h]
theorem cm_lt {s : Strm} {i : Int} {L : Nat} : ∀ j ∈ cm s i L, j < L ∧ i ∈ lotA s j := fun j h => by
  unfold cm at h
  rw [List.mem_filter, List.mem_range] at h
  exact ⟨h.1, by simpa using h.2⟩
theorem cm_congr {s s' : Strm} {i : Int} {L : Nat} (h : ∀ j < L, lotA s j = lotA s' j) : cm s i L = cm s' i L := by
  unfold cm
  refine List.filter_congr fun j hj => ?_
  rw [h j (List.mem_range.mp hj)]
theorem W_cm (s : Strm) (i : Int) (b : Nat) : ∀ k, k ≤ b + 1 → W s i b k = (((cm s i (b + 1)).filter fun j => decide (b + 1 - k ≤ j)).length : Nat)
  | 0, _ => by
    have : (cm s i (b + 1)).filter (fun j => decide (b + 1 - 0 ≤ j)) = [] := by
      rw [List.filter_eq_nil_iff]
      intro j hj
      have := (cm_lt j hj).1
      simp; omega
    rw [this]; rfl
  | k + 1, hk => by
    have ih := W_cm s i b k (by omega)
    simp only [W]
    rw [ih]
    have key : ∀ L, b - k < L → (((cm s i L).filter fun j => decide (b + 1 - (k + 1) ≤ j)).length : Int) = ((cm s i L).filter fun j => decide (b + 1 - k ≤ j)).length + at1 s (b - k) i := by
      intro L
      induction L with
      | zero => intro h; omega
      | succ L ih2 =>
        intro hL
        rw [cm_succ, List.filter_append, List.filter_append, List.length_append, List.length_append]
        by_cases e : L = b - k
        · subst e
          have n1 : (cm s i (b - k)).filter (fun j => decide (b + 1 - (k + 1) ≤ j)) = [] := by
            rw [List.filter_eq_nil_iff]
            intro j hj
            have := (cm_lt j hj).1
            simp; omega
          have n2 : (cm s i (b - k)).filter (fun j => decide (b + 1 - k ≤ j)) = [] := by
            rw [List.filter_eq_nil_iff]
            intro j hj
            have := (cm_lt j hj).1
            simp; omega
          rw [n1, n2]
          unfold at1
          have a1 : b + 1 - (k + 1) ≤ b - k := by omega
          have a2 : ¬ b + 1 - k ≤ b - k := by omega
          by_cases q : i ∈ lotA s (b - k)
          · simp only [q, if_true, List.filter_cons, a1, a2, decide_true, decide_false, Bool.false_eq_true, if_false, List.filter_nil, List.length_cons, List.length_nil]
            omega
          · simp only [q, if_false, List.filter_nil, List.length_nil]
            omega
        · have := ih2 (by omega)
          have a1 : b + 1 - (k + 1) ≤ L := by omega
          have a2 : b + 1 - k ≤ L := by omega
          by_cases q : i ∈ lotA s L
          · simp only [q, if_true, List.filter_cons, a1, a2, decide_true, List.filter_nil, List.length_cons, List.length_nil]
            omega
          · simp only [q, if_false, List.filter_nil, List.length_nil]
            omega
    have := key (b + 1) (by omega)
    omega
theorem sorted_from : ∀ (c : List Nat), c.Pairwise (· < ·) → ∀ (a : Nat) (h : a < c.length), (c.filter fun j => decide (c[a] ≤ j)).length = c.length - a
  | [], _, a, h => by cases h
  | x :: c, hp, 0, _ => by
    rw [List.pairwise_cons] at hp
    have : (x :: c).filter (fun j => decide ((x :: c)[0] ≤ j)) = x :: c := by
      rw [List.filter_eq_self]
      intro j hj
      rcases List.mem_cons.mp hj with e | e
      · simp [e]
      · have := hp.1 j e
        simp; omega
    rw [this]; rfl
  | x :: c, hp, a + 1, h => by
    rw [List.pairwise_cons] at hp
    have h' : a < c.length := by simpa using h
    have ih := sorted_from c hp.2 a h'
    have : ¬ c[a] ≤ x := by have := hp.1 _ (List.getElem_mem h'); omega
    simp only [List.getElem_cons_succ, List.filter_cons, this, decide_false, Bool.false_eq_true, if_false, ih, List.length_cons]
    omega
theorem cm_sorted (s : Strm) (i : Int) (L : Nat) : (cm s i L).Pairwise (· < ·) := List.Pairwise.filter _ List.pairwise_lt_range
/-- the law's look at one more send -/
def Chk (n : Int) (row : Option Row) (c : List Nat) (b : Nat) : Prop := ∀ a (h : a < c.length), ((c.length - a : Nat) : Int) ≤ sntO n row (((b : Int) - (c[a] : Nat)) + 1)
theorem okb_chk {n : Int} {row : Option Row} {s : Strm} {i : Int} {b : Nat} (hn : 0 < n) (hr : ∀ r, row = some r → okRow n r) (h : Chk n row (cm s i (b + 1)) b) : OkB n row s i b := okb_sends hn hr fun j hj hi => by
  have hm : j ∈ cm s i (b + 1) := by
    unfold cm
    rw [List.mem_filter]
    exact ⟨List.mem_range.mpr (by omega), by simpa using hi⟩
  obtain ⟨a, ha, e⟩ := List.getElem_of_mem hm
  have c := h a ha
  have f := sorted_from _ (cm_sorted s i (b + 1)) a ha
  rw [e] at c f
  rw [W_cm s i b _ (by omega), show b + 1 - (b - j + 1) = j by omega, f]
  rw [show ((b - j + 1 : Nat) : Int) = (b : Int) - j + 1 by omega]
  exact c
/-! a stream by the bucket itself -/
theorem snt_step {n : Int} {r : Row} {x : Int} (hn : 0 < n) (hr : okRow n r) : snt n r (x + 1) ≤ snt n r x + 1 := by
  have : r.2.1 * (x + 1) / n ≤ r.2.1 * x / n + 1 := by
    have e : r.2.1 * (x + 1) ≤ r.2.1 * x + 1 * n := by
      rw [Int.mul_add]; have := hr.2.2.2.1; omega
    have := Int.ediv_le_ediv hn e
    rwa [Int.add_mul_ediv_right _ _ (by omega)] at this
  unfold snt; omega
theorem div_sub {n t a b : Int} (hn : 0 < n) : t * (a + b) / n ≤ t * a / n + t * b / n + 1 := by
  rw [Int.mul_add]
  have h1 := Int.emod_lt_of_pos (t * a) hn
  have h2 := Int.emod_lt_of_pos (t * b) hn
  have e1 := Int.mul_ediv_add_emod (t * a) n
  have e2 := Int.mul_ediv_add_emod (t * b) n
  generalize t * a = u at *
  generalize t * b = v at *
  generalize hx : u / n = x at *
  generalize hy : v / n = y at *
  generalize u % n = p at *
  generalize v % n = q at *
  have this : u + v ≤ (p + q) + (x + y) * n := by
    rw [Int.add_mul, Int.mul_comm x, Int.mul_comm y]; omega
  have this := Int.ediv_le_ediv hn this
  rw [Int.add_mul_ediv_right _ _ (by omega)] at this
  have l : (p + q) / n ≤ 1 := by
    have : p + q < 2 * n := by omega
    have := (Int.ediv_lt_iff_lt_mul hn).mpr this
    omega
  omega
theorem snt_win {n : Int} {r : Row} (hn : 0 < n) (hr : okRow n r) {p k : Int} (hp : 0 ≤ p) (hk : 0 ≤ k) (hinc : snt n r (p + k) ≤ snt n r p + k) : snt n r (p + k) - snt n r p ≤ snt n r k := by
  have d := div_sub (t := r.2.1) (a := p) (b := k) hn
  have le : r.2.1 * p / n ≤ p := by
    have e : r.2.1 * p ≤ p * n := by rw [Int.mul_comm]; exact Int.mul_le_mul_of_nonneg_left hr.2.2.2.1 hp
    have := Int.ediv_le_ediv hn e
    rwa [Int.mul_ediv_cancel _ (by omega)] at this
  have d2 : r.2.1 * (p + k) / n ≤ p + r.2.1 * k / n := by
    have e : r.2.1 * (p + k) ≤ r.2.1 * k + p * n := by
      rw [Int.mul_add]
      have : r.2.1 * p ≤ p * n := by rw [Int.mul_comm]; exact Int.mul_le_mul_of_nonneg_left hr.2.2.2.1 hp
      omega
    have := Int.ediv_le_ediv hn e
    rw [Int.add_mul_ediv_right _ _ (by omega)] at this
    omega
  have h1 := hr.1
  unfold snt at *
  omega
theorem snt_inc {n : Int} {r : Row} (hn : 0 < n) (hr : okRow n r) (p : Int) : ∀ k : Nat, snt n r (p + k) ≤ snt n r p + k
  | 0 => by simp
  | k + 1 => by
    have a := snt_inc hn hr p k
    have b := snt_step (x := p + k) hn hr
    rw [show p + ((k + 1 : Nat) : Int) = p + k + 1 by omega]
    omega
theorem okb_own {n : Int} {r : Row} {s : Strm} {i : Int} {b : Nat} (hn : 0 < n) (hr : okRow n r) (h : ∀ j ≤ b, at1 s j i = snt n r ((j + 1 : Nat) : Int) - snt n r j) : OkB n (some r) s i b := by
  have key : ∀ k, k ≤ b + 1 → W s i b k = snt n r ((b + 1 : Nat) : Int) - snt n r ((b + 1 - k : Nat) : Int) := by
    intro k
    induction k with
    | zero => intro _; simp [W]
    | succ k ih =>
      intro hk
      have := ih (by omega)
      have a := h (b - k) (by omega)
      simp only [W, this, a]
      rw [show b + 1 - k = b - k + 1 by omega, show b + 1 - (k + 1) = b - k by omega]
      omega
  intro k hk
  rw [key k hk]
  have inc := snt_inc hn hr ((b + 1 - k : Nat) : Int) k
  have w := snt_win hn hr (p := ((b + 1 - k : Nat) : Int)) (k := k) (by omega) (by omega) inc
  rw [show ((b + 1 - k : Nat) : Int) + k = ((b + 1 : Nat) : Int) by omega] at w
  exact w
end L54

end
section
set_option Elab.async false
set_option linter.all false
set_option maxRecDepth 100000
set_option maxHeartbeats 4000000
/-! the hand: drawn numbers -/
namespace L54
open PySem Dn
/-- only the hand changed -/
def Dr (h : Nat) (S S' : Store) : Prop := HandOk S' h ∧ ∃ o, S' = S.set h o
theorem Dr.trans {h : Nat} {S S1 S2 : Store} (a : Dr h S S1) (b : Dr h S1 S2) : Dr h S S2 := by
  obtain ⟨_, o, rfl⟩ := a
  obtain ⟨k, o2, rfl⟩ := b
  exact ⟨k, o2, by simp⟩
theorem Dr.refl {h : Nat} {S : Store} (k : HandOk S h) : Dr h S S := by
  obtain ⟨gs, p, d, t, s, hS, hd⟩ := k
  exact ⟨⟨gs, p, d, t, s, hS, hd⟩, _, (set_same hS).symm⟩
theorem Dr.get {h x : Nat} {S S' : Store} (d : Dr h S S') (ne : x ≠ h) : S'[x]? = S[x]? := by
  obtain ⟨_, o, rfl⟩ := d
  exact set_get_ne o (Ne.symm ne)
theorem Dr.len {h : Nat} {S S' : Store} (d : Dr h S S') : S'.length = S.length := by
  obtain ⟨_, o, rfl⟩ := d
  simp
theorem hand_congr {S S' : Store} {h : Nat} (hh : HandOk S h) (e : S'[h]? = S[h]?) : HandOk S' h := by
  obtain ⟨gs, p, d, s, c, h1, h2, h3⟩ := hh
  exact ⟨gs, p, d, s, c, by rw [e, h1], h2, h3⟩
theorem hand_lt {S : Store} {h : Nat} (hh : HandOk S h) : h < S.length := by
  obtain ⟨gs, p, d, s, c, h1, _⟩ := hh
  exact lt_of_get h1
theorem drawn {S : Store} {h : Nat} {many : Int} (hS : HandOk S h) (h1 : 1 ≤ many) (h2 : many < 1073741824) :
    ∃ (v : Int) (S' : Store), m__law_draw [.ref h, .int many] S = .ok (.int v) S' ∧ Dr h S S' ∧ 0 ≤ v ∧ v < many := by
  obtain ⟨v, o, e, k, h3, h4⟩ := draw_ok hS h1 h2
  exact ⟨v, _, e, ⟨k, o, rfl⟩, h3, h4⟩
/-- the hand as the law's first object -/
theorem hand0 (ns : List Int) : ∃ S, m__law_hand [.lst (ns.map D.int)] [] = .ok (.ref 0) S ∧ HandOk S 0 ∧ S.length = 1 := by
  obtain ⟨gs, c, e1, hg⟩ := hand_ok (ns := ns) (S := [])
  have e1 : m__law_hand [.lst (ns.map D.int)] [] = .ok (.ref 0) [handO gs (0 : Nat) 0 c 0] := e1
  exact ⟨_, e1, ⟨gs, 0, 0, c, 0, rfl, Int.le_refl _, hg⟩, rfl⟩
end L54

end
section
set_option Elab.async false
set_option linter.all false
set_option maxRecDepth 100000
set_option maxHeartbeats 4000000
/-! drawing, as wishes -/
namespace L54
open PySem Dn
theorem draw_wp {S : Store} {h : Nat} {many : Int} {Q : D → Store → Prop} {X : Xs} (hS : HandOk S h) (h1 : 1 ≤ many) (h2 : many < 1073741824) (k : ∀ v S', Dr h S S' → 0 ≤ v → v < many → Q (.int v) S') : (m__law_draw [.ref h, .int many] S).wp Q X := by
  obtain ⟨v, S', e, d, a, b⟩ := drawn hS h1 h2
  exact wp_of e (k v S' d a b)
/-- what stands stays, the hand apart -/
structure Kp (S S' : Store) : Prop where
  hand : HandOk S' 0
  len : S.length ≤ S'.length
  get : ∀ l o, l ≠ 0 → S[l]? = some o → S'[l]? = some o
theorem Kp.refl {S : Store} (h : HandOk S 0) : Kp S S := ⟨h, Nat.le_refl _, fun _ _ _ h => h⟩
theorem Kp.trans {S S1 S2 : Store} (a : Kp S S1) (b : Kp S1 S2) : Kp S S2 := ⟨b.hand, Nat.le_trans a.len b.len, fun l o n h => b.get l o n (a.get l o n h)⟩
theorem Dr.kp {S S' : Store} (d : Dr 0 S S') : Kp S S' := ⟨d.1, Nat.le_of_eq d.len.symm, fun l o n h => by rw [d.get n, h]⟩
theorem Kp.app {S : Store} (h : HandOk S 0) (T : List SO) : Kp S (S ++ T) := ⟨hand_congr h (List.getElem?_append_left (hand_lt h)), by simp, fun l o n e => by rw [List.getElem?_append_left (lt_of_get e), e]⟩
theorem Kp.keep {S S' : Store} (k : Kp S S') (hS : HandOk S 0) : Keep S S' := Keep.of fun l o ho h => k.get l o (fun e => by
  obtain ⟨gs, p, d, s, c, h1, _⟩ := hS
  rw [e, h1] at h
  cases h
  exact ho _ rfl) h
theorem Kp.so {S S' : Store} (k : Kp S S') (hS : HandOk S 0) {cs : List Str} {b : Nat} {x : D} (h : x.soi cs b S = true) : x.soi cs b S' = true := so_mono (Nat.le_refl _) (k.keep hS) h
end L54

end
section
set_option Elab.async false
set_option linter.all false
set_option maxRecDepth 100000
set_option maxHeartbeats 4000000
/-! repr of small data -/
namespace Dn
open PySem
/-- what repr(x) is -/
def reprD (S : Store) (x : D) : Option D := if D.pl 64 (flatL S x) && (flatL S x).P.showable && decide ((flatL S x).P.shown.length ≤ sizeLine) then some (.str (flatL S x).P.shown) else none
@[simp] theorem eRepr_ap (a : DE) (r : Rho) (S : Store) : eRepr a r S = ((a r S).bind fun x S => Rs.ofO (reprD S x) S) := by
  refine nr ?_
  unfold eRepr reprD
  congr 1
  funext x S
  split <;> rfl
@[simp] theorem cmpEqS_str (a b : Str) : cmpEqS (.str a) (.str b) = some (decide (a = b)) := nr rfl
@[simp] theorem cmpNeS_str (a b : Str) : cmpNeS (.str a) (.str b) = some (!decide (a = b)) := nr rfl
mutual
/-- leaves that are short -/
def D.rdy (K : Nat) : D → Bool
  | .non => true
  | .bl _ => true
  | .int i => decide (i.natAbs < 10 ^ K)
  | .str x => PyData.strOk x
  | .tup xs => D.rdys K xs
  | .lst xs => D.rdys K xs
  | .ref _ => false
  | .cls _ => false
  | .fn _ => false
def D.rdys (K : Nat) : List D → Bool
  | [] => true
  | x :: xs => x.rdy K && D.rdys K xs
end
mutual
def D.wt (K : Nat) : D → Nat
  | .int _ => 4 * K
  | .str x => x.cps.size
  | .tup xs => D.wts K xs
  | .lst xs => D.wts K xs
  | .non => 0
  | .bl _ => 0
  | .ref _ => 0
  | .cls _ => 0
  | .fn _ => 0
def D.wts (K : Nat) : List D → Nat
  | [] => 0
  | x :: xs => x.wt K + 1 + D.wts K xs
end
theorem log2_lt10 {n K : Nat} (h : n < 10 ^ K) (hK : 0 < K) : n.log2 < 4 * K := by
  by_cases h0 : n = 0
  · subst h0; simp; omega
  · refine (Nat.log2_lt h0).mpr (Nat.lt_of_lt_of_le h ?_)
    rw [Nat.pow_mul]
    exact Nat.pow_le_pow_left (by decide) K
mutual
theorem rdy_leaves {K : Nat} (hK : 0 < K) : ∀ {x : D}, x.rdy K = true → x.P.leavesShort (K + 1) = true
  | .non, _ => rfl
  | .bl _, _ => rfl
  | .int i, h => by
    simp only [D.rdy, decide_eq_true_eq] at h
    simp only [D.P, PyData.leavesShort, decide_eq_true_eq]
    have e := int_text_length_le10 hK h
    show (Str.ofString (toString i)).length ≤ K + 1
    rw [ofString_length]; exact e
  | .str x, h => by
    simp only [D.rdy] at h
    have h0 : x.cps.all (· < 0x110000) = true := by simpa only [PyData.strOk] using h
    simp only [D.P, PyData.leavesShort, List.all_eq_true, decide_eq_true_eq]
    intro c hcm
    have h2 := (Array.all_eq_true_iff_forall_mem.mp h0) c (Array.mem_toList_iff.mp hcm)
    have h2 : c < 0x110000 := by simpa using h2
    have e : (16 : Nat) ^ 8 = 4294967296 := by decide
    omega
  | .tup xs, h => by
    simp only [D.rdy] at h
    simp only [D.P, PyData.leavesShort]
    exact rdys_leaves hK h
  | .lst xs, h => by
    simp only [D.rdy] at h
    simp only [D.P, PyData.leavesShort]
    exact rdys_leaves hK h
theorem rdys_leaves {K : Nat} (hK : 0 < K) : ∀ {xs : List D}, D.rdys K xs = true → PyData.leavesShortAll (K + 1) (D.Ps xs) = true
  | [], _ => rfl
  | x :: xs, h => by
    simp only [D.rdys, Bool.and_eq_true] at h
    simp only [D.Ps, PyData.leavesShortAll, Bool.and_eq_true]
    exact ⟨rdy_leaves hK h.1, rdys_leaves hK h.2⟩
end
mutual
theorem rdy_show {K : Nat} (hK : 0 < K) (hK2 : K ≤ 400) : ∀ {x : D}, x.rdy K = true → x.P.showable = true
  | .non, _ => rfl
  | .bl _, _ => rfl
  | .int i, h => by
    simp only [D.rdy, decide_eq_true_eq] at h
    simp only [D.P, PyData.showable, decide_eq_true_eq]
    have := log2_lt10 h hK
    omega
  | .str x, h => rfl
  | .tup xs, h => by
    simp only [D.rdy] at h
    simp only [D.P, PyData.showable]
    exact rdys_show hK hK2 h
  | .lst xs, h => by
    simp only [D.rdy] at h
    simp only [D.P, PyData.showable]
    exact rdys_show hK hK2 h
theorem rdys_show {K : Nat} (hK : 0 < K) (hK2 : K ≤ 400) : ∀ {xs : List D}, D.rdys K xs = true → PyData.showableAll (D.Ps xs) = true
  | [], _ => rfl
  | x :: xs, h => by
    simp only [D.rdys, Bool.and_eq_true] at h
    simp only [D.Ps, PyData.showableAll, Bool.and_eq_true]
    exact ⟨rdy_show hK hK2 h.1, rdys_show hK hK2 h.2⟩
end
mutual
theorem rdy_wt {K : Nat} (hK : 0 < K) : ∀ {x : D}, x.rdy K = true → x.P.weight ≤ x.wt K
  | .non, _ => by simp [D.P, PyData.weight]
  | .bl _, _ => by simp [D.P, PyData.weight]
  | .int i, h => by
    simp only [D.rdy, decide_eq_true_eq] at h
    simp only [D.P, PyData.weight, D.wt]
    have := log2_lt10 h hK
    split <;> omega
  | .str x, h => by simp [D.P, PyData.weight, D.wt]
  | .tup xs, h => by
    simp only [D.rdy] at h
    simp only [D.P, PyData.weight, D.wt]
    exact rdys_wt hK h
  | .lst xs, h => by
    simp only [D.rdy] at h
    simp only [D.P, PyData.weight, D.wt]
    exact rdys_wt hK h
theorem rdys_wt {K : Nat} (hK : 0 < K) : ∀ {xs : List D}, D.rdys K xs = true → PyData.weightAll (D.Ps xs) ≤ D.wts K xs
  | [], _ => by simp [D.Ps, PyData.weightAll]
  | x :: xs, h => by
    simp only [D.rdys, Bool.and_eq_true] at h
    simp only [D.Ps, PyData.weightAll, D.wts]
    have h1 := rdy_wt hK h.1
    have h2 := rdys_wt hK h.2
    omega
end
/-- small data are shown -/
theorem repr_of {K : Nat} {x : D} (S : Store) (hK : 7 ≤ K) (hK2 : K ≤ 400) (h : x.rdy K = true) (hp : D.pl 64 x = true) (hw : x.wt K * (K + 3) ≤ 16000000) : reprD S x = some (.str x.P.shown) := by
  have e0 : flatL S x = x := by cases x <;> first | rfl | (simp [D.rdy] at h)
  have e1 := PyData.shown_le (K + 1) (by omega) x.P (rdy_leaves (by omega) h)
  have e2 := rdy_wt (by omega) h
  have e3 : (K + 1 + 2) * x.P.weight ≤ 16000000 := by
    rw [Nat.mul_comm]
    exact Nat.le_trans (Nat.mul_le_mul_right _ e2) hw
  have e4 : x.P.shown.length ≤ sizeLine := by rw [sizeLine_eq]; omega
  unfold reprD
  rw [e0, if_pos (by simp only [hp, rdy_show (by omega) hK2 h, e4, decide_true, Bool.and_self])]
section
variable {K : Nat}
@[simp] theorem rdy_non : D.non.rdy K = true := nr rfl
@[simp] theorem rdy_bl (b : Bool) : (D.bl b).rdy K = true := nr rfl
@[simp] theorem rdy_int (i : Int) : (D.int i).rdy K = decide (i.natAbs < 10 ^ K) := nr rfl
@[simp] theorem rdy_str (x : Str) : (D.str x).rdy K = PyData.strOk x := nr rfl
@[simp] theorem rdy_tup (xs : List D) : (D.tup xs).rdy K = D.rdys K xs := nr rfl
@[simp] theorem rdy_lst (xs : List D) : (D.lst xs).rdy K = D.rdys K xs := nr rfl
@[simp] theorem rdys_nil : D.rdys K [] = true := nr rfl
@[simp] theorem rdys_cons (x : D) (xs : List D) : D.rdys K (x :: xs) = (x.rdy K && D.rdys K xs) := nr rfl
@[simp] theorem wt_non : D.non.wt K = 0 := nr rfl
@[simp] theorem wt_bl (b : Bool) : (D.bl b).wt K = 0 := nr rfl
@[simp] theorem wt_int (i : Int) : (D.int i).wt K = 4 * K := nr rfl
@[simp] theorem wt_str (x : Str) : (D.str x).wt K = x.cps.size := nr rfl
@[simp] theorem wt_tup (xs : List D) : (D.tup xs).wt K = D.wts K xs := nr rfl
@[simp] theorem wt_lst (xs : List D) : (D.lst xs).wt K = D.wts K xs := nr rfl
@[simp] theorem wts_nil : D.wts K [] = 0 := nr rfl
@[simp] theorem wts_cons (x : D) (xs : List D) : D.wts K (x :: xs) = x.wt K + 1 + D.wts K xs := nr rfl
end
/-! data equal to themselves -/
mutual
theorem eqD_refl : ∀ {k : Nat} {x : D}, D.pl k x = true → eqD x x = true
  | _, .non, _ => rfl
  | _, .bl b, _ => by simp [eqD]
  | _, .int i, _ => by simp [eqD]
  | _, .str x, _ => by simp [eqD]
  | k + 1, .tup xs, h => eqDs_refl (k := k) h
  | k + 1, .lst xs, h => eqDs_refl (k := k) h
  | 0, .tup _, h => by cases h
  | 0, .lst _, h => by cases h
  | _, .ref _, h => by simp [D.pl] at h
  | _, .cls _, h => by simp [D.pl] at h
  | _, .fn _, h => by simp [D.pl] at h
theorem eqDs_refl : ∀ {k : Nat} {xs : List D}, D.pls k xs = true → eqDs xs xs = true
  | _, [], _ => rfl
  | k, x :: xs, h => by
    simp only [D.pls, Bool.and_eq_true] at h
    simp only [eqDs, Bool.and_eq_true]
    exact ⟨eqD_refl h.1, eqDs_refl h.2⟩
end
theorem flatL_pl {k : Nat} {S : Store} {x : D} (h : D.pl k x = true) : flatL S x = x := by
  cases x <;> first | rfl | (simp [D.pl] at h)
theorem cmpEq_at {S : Store} {x y : D} (h : D.pl 64 x = true) (h2 : D.pl 64 y = true) : cmpEq S x y = some (eqD x y) := by
  unfold cmpEq
  rw [flatL_pl h, flatL_pl h2, h, h2]
  rfl
theorem cmpNe_at {S : Store} {x y : D} (h : D.pl 64 x = true) (h2 : D.pl 64 y = true) : cmpNe S x y = some (!eqD x y) := by
  unfold cmpNe
  rw [flatL_pl h, flatL_pl h2, h, h2]
  rfl
theorem cmpEq_same {S : Store} {x : D} (h : D.pl 64 x = true) : cmpEq S x x = some true := by rw [cmpEq_at h h, eqD_refl h]
theorem cmpNe_same {S : Store} {x : D} (h : D.pl 64 x = true) : cmpNe S x x = some false := by rw [cmpNe_at h h, eqD_refl h]; rfl
@[simp] theorem cmpEq_bl (S : Store) (a b : Bool) : cmpEq S (.bl a) (.bl b) = some (decide (a = b)) := by cases a <;> cases b <;> rfl
@[simp] theorem cmpNe_bl (S : Store) (a b : Bool) : cmpNe S (.bl a) (.bl b) = some (!decide (a = b)) := by cases a <;> cases b <;> rfl
@[simp] theorem lookup_if (k a : Str) (v : D) (l : List (Str × D)) : List.lookup k ((a, v) :: l) = if k = a then some v else List.lookup k l := by
  rw [List.lookup_cons]
  by_cases h : k = a
  · simp [h]
  · have : (k == a) = false := by simpa using h
    rw [this, if_neg h]
@[simp] theorem itemsD_nil (r : Rho) (S : Store) : itemsD [] r S = .ok [] S := nr rfl
@[simp] theorem itemsD_v (d : DE) (l : List Itm) (r : Rho) (S : Store) : itemsD (.v d :: l) r S = ((d r S).bind fun x S => (itemsD l r S).bind fun xs S => .ok (.val x :: xs) S) := nr rfl
@[simp] theorem itemsD_o (d : DA) (l : List Itm) (r : Rho) (S : Store) : itemsD (.o d :: l) r S = ((d r S).bind fun x S => (itemsD l r S).bind fun xs S => .ok (.own x :: xs) S) := nr rfl
@[simp] theorem putAll_nil (r : Rho) : putAll [] [] r = some r := nr rfl
@[simp] theorem putAll_cons (i : Nat) (is : List Nat) (x : Sl) (xs : List Sl) (r : Rho) : putAll (i :: is) (x :: xs) r = if i < r.length then putAll is xs (r.set i x) else none := nr rfl
@[simp] theorem sParG_ap (is : List Nat) (l : List Itm) (r : Rho) (S : Store) : sParG is l r S = (itemsD l r S).toS r fun xs S => match putAll is xs r with
  | some r' => .next r' S
  | none => .bad := nr rfl
theorem rdys_of {K : Nat} {xs : List D} (h : ∀ x ∈ xs, x.rdy K = true) : D.rdys K xs = true := by
  induction xs with
  | nil => rfl
  | cons y ys ih =>
    simp only [rdys_cons, Bool.and_eq_true]
    exact ⟨h y (List.mem_cons_self ..), ih fun x hx => h x (List.mem_cons_of_mem _ hx)⟩
theorem pls_of' {k : Nat} {xs : List D} (h : ∀ x ∈ xs, D.pl k x = true) : D.pls k xs = true := by
  induction xs with
  | nil => cases k <;> rfl
  | cons y ys ih =>
    simp only [D.pls, Bool.and_eq_true]
    exact ⟨h y (List.mem_cons_self ..), ih fun x hx => h x (List.mem_cons_of_mem _ hx)⟩
theorem wts_le {K b : Nat} {xs : List D} (h : ∀ x ∈ xs, x.wt K ≤ b) : D.wts K xs ≤ (b + 1) * xs.length := by
  induction xs with
  | nil => simp
  | cons y ys ih =>
    have h1 := h y (List.mem_cons_self ..)
    have h2 := ih fun x hx => h x (List.mem_cons_of_mem _ hx)
    simp only [wts_cons, List.length_cons, Nat.mul_add]
    omega
theorem rdys_ints {K : Nat} {is : List Int} (h : ∀ o ∈ is, o.natAbs < 10 ^ K) : D.rdys K (is.map D.int) = true := rdys_of fun x hx => by
  obtain ⟨i, hi, rfl⟩ := List.mem_map.mp hx
  simpa using h i hi
theorem wts_ints {K : Nat} (is : List Int) : D.wts K (is.map D.int) = (4 * K + 1) * is.length := by
  induction is with
  | nil => rfl
  | cons i is ih => simp only [List.map_cons, wts_cons, wt_int, ih, List.length_cons, Nat.mul_add]; omega
@[simp] theorem cmpIsT_bl (b c : Bool) : cmpIsT b (.bl c) = some (decide (c = b)) := by cases b <;> cases c <;> rfl
mutual
theorem pl_mono : ∀ {k m : Nat} {x : D}, k ≤ m → D.pl k x = true → D.pl m x = true
  | _, m, .non, _, _ => by cases m <;> rfl
  | _, m, .bl b, _, _ => by cases m <;> rfl
  | _, m, .int i, _, _ => by cases m <;> rfl
  | k, m, .str x, _, h => by
    have h : PyData.strOk x = true := by cases k <;> exact h
    cases m <;> exact h
  | k + 1, m + 1, .tup xs, l, h => pls_mono (k := k) (m := m) (by omega) h
  | k + 1, m + 1, .lst xs, l, h => pls_mono (k := k) (m := m) (by omega) h
  | 0, _, .tup _, _, h => by cases h
  | 0, _, .lst _, _, h => by cases h
  | k + 1, 0, _, l, _ => absurd l (by omega)
  | _, _, .ref _, _, h => by simp [D.pl] at h
  | _, _, .cls _, _, h => by simp [D.pl] at h
  | _, _, .fn _, _, h => by simp [D.pl] at h
theorem pls_mono : ∀ {k m : Nat} {xs : List D}, k ≤ m → D.pls k xs = true → D.pls m xs = true
  | _, m, [], _, _ => by cases m <;> rfl
  | k, m, x :: xs, l, h => by
    simp only [D.pls, Bool.and_eq_true] at h ⊢
    exact ⟨pl_mono l h.1, pls_mono l h.2⟩
end
theorem pls_mem {k : Nat} : ∀ {xs : List D}, D.pls k xs = true → ∀ x ∈ xs, D.pl k x = true
  | y :: ys, h, x, hx => by
    simp only [D.pls, Bool.and_eq_true] at h
    rcases List.mem_cons.mp hx with rfl | hx
    · exact h.1
    · exact pls_mem h.2 x hx
/-- data of bounded size and depth -/
def Bd (b k : Nat) (x : D) : Prop := (∀ S, x.soi [] b S = true) ∧ D.pl k x = true
theorem Bd.tup {b k : Nat} {xs : List D} (h : ∀ x ∈ xs, Bd b k x) (l : xs.length ≤ b) : Bd b (k + 1) (.tup xs) := ⟨fun S => by simp [l, sos_of fun x hx => (h x hx).1 S], by simp only [D.pl]; exact pls_of' fun x hx => (h x hx).2⟩
theorem Bd.lst {b k : Nat} {xs : List D} (h : ∀ x ∈ xs, Bd b k x) (l : xs.length ≤ b) : Bd b (k + 1) (.lst xs) := ⟨fun S => by simp [l, sos_of fun x hx => (h x hx).1 S], by simp only [D.pl]; exact pls_of' fun x hx => (h x hx).2⟩
theorem Bd.of_tup {b k : Nat} {xs : List D} (h : Bd b (k + 1) (.tup xs)) : (∀ x ∈ xs, Bd b k x) ∧ xs.length ≤ b := by
  refine ⟨fun x hx => ⟨fun S => ?_, pls_mem (by have := h.2; simpa only [D.pl] using this) x hx⟩, ?_⟩
  · have := h.1 S
    simp at this
    exact sos_mem this.2 hx
  · have := h.1 []
    simp at this
    exact this.1
theorem Bd.mono {b c k m : Nat} {x : D} (h : Bd b k x) (l1 : b ≤ c) (l2 : k ≤ m) : Bd c m x := ⟨fun S => so_mono l1 Keep.refl (h.1 S), pl_mono l2 h.2⟩
theorem Bd.int (b k : Nat) (i : Int) : Bd b k (.int i) := ⟨fun _ => rfl, by cases k <;> rfl⟩
theorem Bd.bl (b k : Nat) (i : Bool) : Bd b k (.bl i) := ⟨fun _ => rfl, by cases k <;> rfl⟩
theorem Bd.non (b k : Nat) : Bd b k .non := ⟨fun _ => rfl, by cases k <;> rfl⟩
@[simp] theorem eqD_int (a b : Int) : eqD (.int a) (.int b) = decide (a = b) := by
  show (a == b) = _
  rw [Bool.eq_iff_iff]
  simp
theorem atD_mem {xs : List D} {v : Int} (h0 : 0 ≤ v) (h1 : v < xs.length) : ∃ y ∈ xs, atD xs v = some y := by
  obtain ⟨i, rfl⟩ := Int.eq_ofNat_of_zero_le h0
  have hi : i < xs.length := by omega
  exact ⟨xs[i], List.getElem_mem hi, by rw [atD_at hi, List.getElem?_eq_getElem hi]⟩
theorem cut_take {xs : List D} {v : Nat} (h : v < xs.length) : cutD xs none (some (v : Int)) = xs.take v := by
  have : min v xs.length = v := by omega
  have h2 : ¬ ((v : Int) < 0) := by omega
  simp [cutD, cutAt, this, h2]
theorem cut_drop {xs : List D} {v : Nat} (h : v < xs.length) : cutD xs (some ((v : Int) + 1)) none = xs.drop (v + 1) := by
  have h1 : ((v : Int) + 1).toNat = v + 1 := by omega
  have h2 : ¬ ((v : Int) + 1 < 0) := by omega
  have h3 : min (v + 1) xs.length = v + 1 := by omega
  simp [cutD, cutAt, h1, h2, h3, List.take_of_length_le]
theorem cut_mem {xs : List D} {lo hi : Option Int} : ∀ y ∈ cutD xs lo hi, y ∈ xs := fun y h => List.mem_of_mem_drop (List.mem_of_mem_take h)
theorem cut_le {xs : List D} {lo hi : Option Int} : (cutD xs lo hi).length ≤ xs.length := by
  simp [cutD]
  omega
theorem cut_len {xs : List D} {i : Int} (h : 0 ≤ i) : (cutD xs none (some i)).length ≤ i.toNat := by
  have : ¬ i < 0 := by omega
  simp [cutD, cutAt, this]
  omega
def repD (k : Nat) (xs : List D) : List D := (List.replicate k xs).flatten
theorem mul_tup {S : Store} {xs : List D} {k : Int} (h : 2 ≤ k) (h2 : k ≤ 1000) (h3 : xs.length ≤ 1000) : opMul S (.tup xs) (.int k) = some (.tup (repD k.toNat xs)) := by
  cases xs with
  | nil =>
    have h0 : (0 : Int) ≤ k := by omega
    simp [opMul, repD, h, h2, h0]
  | cons x xs =>
    simp at h3
    have h4 : xs.length + 1 ≤ 1000 := by omega
    simp [opMul, repD, h, h2, h4]
theorem repD_len (k : Nat) (xs : List D) : (repD k xs).length = k * xs.length := by simp [repD]
theorem repD_mem {k : Nat} {xs : List D} : ∀ y ∈ repD k xs, y ∈ xs := fun y h => by
  simp only [repD, List.mem_flatten] at h
  obtain ⟨l, h1, h2⟩ := h
  rw [List.eq_of_mem_replicate h1] at h2
  exact h2
end Dn

end
section
set_option Elab.async false
set_option linter.all false
set_option maxRecDepth 100000
set_option maxHeartbeats 4000000
/-! rows, what they send, buckets made -/
namespace L54
open PySem Dn Pg
def rT (r : Row) : D := .tup [.int r.1, .int r.2.1, .int r.2.2]
def rD : Option Row → D
  | none => .non
  | some r => rT r
theorem mulOk_sm {i j : Int} (h1 : 0 ≤ i) (h2 : i ≤ 1000000000) (h3 : 0 ≤ j) (h4 : j ≤ 1000000000) : mulOk i j = true := by
  simp [mulOk]
  omega
theorem mul_i {S : Store} {i j : Int} (h : mulOk i j = true) : opMul S (.int i) (.int j) = some (.int (i * j)) := by simp [opMul, h]
theorem div_i {i j : Int} (h : 0 < j) (h2 : j < 1073741824) : opDiv (.int i) (.int j) = some (.int (i / j)) := by simp [opDiv, h, h2]
theorem min_if (i j : Int) : (if j < i then j else i) = min i j := by split <;> omega
theorem max_if (i j : Int) : (if i < j then j else i) = max i j := by split <;> omega
theorem within (x : Int) (a b : Int) (S : Store) : m_is_within [.int x, .int a, .int b] S = .ok (.bl (decide (a ≤ x ∧ x ≤ b))) S := by
  refine wp_eq (fn_wp rfl ?_)
  simp [b_is_within, m_is_integer, b_is_integer, fnD]
theorem isrow_some {n : Int} {r : Row} (S : Store) (h : okRow n r) : m_is_row [.int n, rT r] S = .ok (.bl true) S := by
  refine wp_eq (fn_wp rfl ?_)
  obtain ⟨h1, h2, h3, h4, h5, h6⟩ := h
  simp [b_is_row, rT, within, h1, h2, h3, h4, h5, h6]
theorem isrow_none {n : Int} (S : Store) : m_is_row [.int n, .non] S = .ok (.bl true) S := by
  refine wp_eq (fn_wp rfl ?_)
  simp [b_is_row]
theorem isrow {n : Int} {r : Option Row} (S : Store) (h : ∀ x, r = some x → okRow n x) : m_is_row [.int n, rD r] S = .ok (.bl true) S := by
  cases r with
  | none => exact isrow_none S
  | some r => exact isrow_some S (h r rfl)
theorem sent1 {n b : Int} {r : Row} (S : Store) (hn : 0 < n) (hn2 : n ≤ 100) (h : okRow n r) (b0 : 0 ≤ b) (b1 : b ≤ 1000000000) : m_sent_by [.int n, rT r, .int b] S = .ok (.int (snt n r b)) S := by
  refine wp_eq (fn_wp rfl ?_)
  obtain ⟨h1, h2, h3, h4, h5, h6⟩ := h
  have e := mulOk_sm (i := r.2.1) (j := b) h3 (by omega) b0 b1
  have l : n < 1073741824 := by omega
  simp [b_sent_by, rT, snt, mul_i e, div_i hn l, min_if]
theorem sent2 {n b : Int} {r : Row} (S : Store) (hn : 0 < n) (hn2 : n ≤ 100) (h : okRow n r) (b0 : 0 ≤ b) (b1 : b ≤ 1000000000) : m__law_sent [rT r, .int n, .int b] S = .ok (.int (snt n r b)) S := by
  refine wp_eq (fn_wp rfl ?_)
  obtain ⟨h1, h2, h3, h4, h5, h6⟩ := h
  have e := mulOk_sm (i := r.2.1) (j := b) h3 (by omega) b0 b1
  have l : n < 1073741824 := by omega
  simp [b__law_sent, rT, snt, mul_i e, div_i hn l, min_if]

theorem sentO1 {n b : Int} {r : Option Row} (S : Store) (hn : 0 < n) (hn2 : n ≤ 100) (h : ∀ x, r = some x → okRow n x) (b0 : 0 ≤ b) (b1 : b ≤ 1000000000) : m_sent_by [.int n, rD r, .int b] S = .ok (.int (sntO n r b)) S := by
  cases r with
  | some r => exact sent1 S hn hn2 (h r rfl) b0 b1
  | none =>
    refine wp_eq (fn_wp rfl ?_)
    simp [b_sent_by, rD, sntO]
theorem sentO2 {n b : Int} {r : Option Row} (S : Store) (hn : 0 < n) (hn2 : n ≤ 100) (h : ∀ x, r = some x → okRow n x) (b0 : 0 ≤ b) (b1 : b ≤ 1000000000) : m__law_sent [rD r, .int n, .int b] S = .ok (.int (sntO n r b)) S := by
  cases r with
  | some r => exact sent2 S hn hn2 (h r rfl) b0 b1
  | none =>
    refine wp_eq (fn_wp rfl ?_)
    simp [b__law_sent, rD, sntO]
abbrev bk (n : Int) (x : D) : SO := .ins "Buckets" [("bottom", .int n), ("rows", x)]
def okRows (n : Int) (rows : List (Option Row)) : Prop := 1 ≤ rows.length ∧ rows.length ≤ 12 ∧ ∀ r ∈ rows, ∀ x, r = some x → okRow n x
theorem enum_mem : ∀ {xs : List D} {i : Nat} {y : D}, y ∈ enumD i xs → ∃ j x, y = .tup [.int j, x] ∧ x ∈ xs := by
  intro xs
  induction xs with
  | nil => intro i y h; simp [enumD] at h
  | cons x xs ih =>
    intro i y h
    simp only [enumD, List.mem_cons] at h
    rcases h with rfl | h
    · exact ⟨_, x, rfl, List.mem_cons_self ..⟩
    · obtain ⟨j, z, e, hz⟩ := ih h
      exact ⟨j, z, e, List.mem_cons_of_mem _ hz⟩
theorem bucket_init {n : Int} {rows : List (Option Row)} (S : Store) {l : Nat} (hl : S[l]? = some (.ins "Buckets" [])) (hn : 0 < n) (hn2 : n ≤ 20) (h : okRows n rows) : m_Buckets_init [.ref l, .int n, .tup (rows.map rD)] S = .ok .non (S.set l (bk n (.tup (rows.map rD)))) := by
  refine wp_eq (fn_wp rfl ?_)
  have sg : ∀ o, (S.set l o)[l]? = some o := fun o => set_get o (lt_of_get hl)
  have h1 : 1 ≤ (rows.length : Int) := by have := h.1; omega
  have h2 : (rows.length : Int) ≤ 12 := by have := h.2.1; omega
  have h0 : (1 : Int) ≤ n := by omega
  simp [b_Buckets_init, within, h0, hn2, h1, h2]
  refine for_wp (I := fun ys r' S' => S' = S ∧ (∀ y ∈ ys, ∃ (j : Int) (x : Option Row), y = .tup [.int j, rD x] ∧ x ∈ rows) ∧ ∃ z3 z4, r' = [.val (.ref l), .val (.int n), .val (.tup (rows.map rD)), z3, z4]) (fun y ys r' S' hI => ?_) (fun r' S' hI => ?_) ⟨rfl, ?_, .un, .un, rfl⟩
  · obtain ⟨rfl, hy, z3, z4, rfl⟩ := hI
    obtain ⟨j, x, rfl, hx⟩ := hy y (List.mem_cons_self ..)
    refine ⟨trivial, _, by simp; rfl, ?_⟩
    simp [isrow S' (h.2.2 x hx)]
    exact fun y hm => hy y (List.mem_cons_of_mem _ hm)
  · obtain ⟨rfl, _, z3, z4, rfl⟩ := hI
    simp [hl, putFD, sg]
  · intro y hy
    obtain ⟨j, x, e, hx⟩ := enum_mem hy
    obtain ⟨o, ho, rfl⟩ := List.mem_map.mp hx
    exact ⟨j, o, e, ho⟩
theorem pl_rows {rows : List (Option Row)} (h : rows.length ≤ 12) : D.pl 64 (.tup [.int n, .tup (rows.map rD)]) = true := by
  have : ∀ x ∈ rows.map rD, D.pl 62 x = true := fun x hx => by
    obtain ⟨r, _, rfl⟩ := List.mem_map.mp hx
    cases r with
    | none => rfl
    | some r => simp [rD, rT, D.pl, D.pls]
  have h2 := pls_of' this
  have h3 : (rows.map rD).length ≤ 12 := by simpa using h
  simp [D.pl, D.pls, h2]
theorem eq_bk {S : Store} {l k : Nat} {n : Int} {rows : List (Option Row)} (h1 : S[l]? = some (bk n (.tup (rows.map rD)))) (h2 : S[k]? = some (bk n (.tup (rows.map rD)))) (hl : rows.length ≤ 12) :
    m_Buckets___eq__ [.ref l, .ref k] S = .ok (.bl true) S := by
  have e := cmpEq_same (S := S) (pl_rows (n := n) hl)
  simp [m_Buckets___eq__, fnD_fin, b_Buckets___eq__, h1, h2, e, tyName]

end L54

end
section
set_option Elab.async false
set_option linter.all false
set_option maxRecDepth 100000
set_option maxHeartbeats 4000000
/-! odd buckets judged -/
namespace L54
open PySem Dn Pg
abbrev Pd (b : Nat) (d : D) : Prop := ∀ S, d.soi [] b S = true
theorem Pd.tup {b : Nat} {xs : List D} (h : Pd b (.tup xs)) : xs.length ≤ b ∧ ∀ x ∈ xs, Pd b x := by
  refine ⟨?_, fun x hx S => ?_⟩
  · have := h []; simp at this; exact this.1
  · have := h S; simp at this; exact sos_mem this.2 hx
theorem Pd.of_tup {b : Nat} {xs : List D} (l : xs.length ≤ b) (h : ∀ x ∈ xs, Pd b x) : Pd b (.tup xs) := fun S => by simp [l, sos_of fun x hx => h x hx S]
theorem Pd.of_lst {b : Nat} {xs : List D} (l : xs.length ≤ b) (h : ∀ x ∈ xs, Pd b x) : Pd b (.lst xs) := fun S => by simp [l, sos_of fun x hx => h x hx S]
theorem Pd.mono {b c : Nat} {x : D} (h : Pd b x) (l : b ≤ c) : Pd c x := fun S => so_mono l Keep.refl (h S)
theorem oword {S : Store} {x : D} {B : Nat} (h : x.soi [] B S = true) (a b : Int) : m_is_within [x, .int a, .int b] S = .ok (.bl (wi x a b)) S := by
  cases x <;> first
      | (simp at h; done)
      | (simp [m_is_within, b_is_within, m_is_integer, b_is_integer, fnD, wi]; done)
      | (rcases so_ref h with ⟨t, kvs, e⟩ | ⟨c, fs, e, hc⟩ <;> simp [m_is_within, b_is_within, m_is_integer, b_is_integer, fnD, wi, tyName, e] <;> simp_all; done)
theorem lword {S : Store} {x : D} {B : Nat} (h : x.soi [] B S = true) (a b : Int) : m__law_is_int [x, .int a, .int b] S = .ok (.bl (wi x a b)) S := by
  cases x <;> first
      | (simp at h; done)
      | (simp [m__law_is_int, b__law_is_int, fnD, wi]; done)
      | (rcases so_ref h with ⟨t, kvs, e⟩ | ⟨c, fs, e, hc⟩ <;> simp [m__law_is_int, b__law_is_int, fnD, wi, tyName, e] <;> simp_all; done)
def rowP (n : Int) : D → Bool
  | .non => true
  | .tup [a, b, c] => wi a 1 20 && (wi b 0 n && wi c 0 7)
  | _ => false
def rowGo (n : Int) : Int → List D → Option D
  | _, [] => none
  | i, y :: ys => if rowP n y then rowGo n (i + 1) ys else some (.int i)
def rowsD (n : Int) : D → Option D
  | .tup ys => if 1 ≤ ys.length ∧ ys.length ≤ 12 then rowGo n 0 ys else some (.str "rows")
  | _ => some (.str "rows")
def dueO (x y : D) : Option D := if wi x 1 20 then rowsD x.i y else some (.str "bottom")
theorem orow {S : Store} {y : D} {B : Nat} (h : y.soi [] B S = true) (n : Int) : m_is_row [.int n, y] S = .ok (.bl (rowP n y)) S := by
  refine wp_eq (fn_wp rfl ?_)
  cases y <;> first
      | (simp at h; done)
      | (simp [b_is_row, rowP]; done)
      | (rcases so_ref h with ⟨t, kvs, e⟩ | ⟨c, fs, e, hc⟩ <;> simp [b_is_row, rowP, tyName, e] <;> simp_all; done)
      | skip
  rename_i xs
  by_cases hl : xs.length = 3
  · match xs, hl with
    | [a, b, c], _ =>
      simp at h
      have e1 := oword (S := S) h.2.1 1 20
      have e2 := oword (S := S) h.2.2.1 0 n
      have e3 := oword (S := S) h.2.2.2 0 7
      simp [b_is_row, rowP, e1]
      cases wi a 1 20 <;> simp [e2]
      cases wi b 0 n <;> simp [e3]
  · have a : rowP n (.tup xs) = false := by
      match xs with
      | [] => rfl
      | [_] => rfl
      | [_, _] => rfl
      | [_, _, _] => exact absurd rfl hl
      | _ :: _ :: _ :: _ :: _ => rfl
    have hl' : ¬ (xs.length : Int) = 3 := by omega
    simp [b_is_row, a, hl']
theorem lrow {S : Store} {y : D} {B : Nat} (h : y.soi [] B S = true) (n : Int) : m__law_is_row [.int n, y] S = .ok (.bl (rowP n y)) S := by
  refine wp_eq (fn_wp rfl ?_)
  cases y <;> first
      | (simp at h; done)
      | (simp [b__law_is_row, rowP]; done)
      | (rcases so_ref h with ⟨t, kvs, e⟩ | ⟨c, fs, e, hc⟩ <;> simp [b__law_is_row, rowP, tyName, e] <;> simp_all; done)
      | skip
  rename_i xs
  by_cases hl : xs.length = 3
  · match xs, hl with
    | [a, b, c], _ =>
      simp at h
      have e1 := lword (S := S) h.2.1 1 20
      have e2 := lword (S := S) h.2.2.1 0 n
      have e3 := lword (S := S) h.2.2.2 0 7
      simp [b__law_is_row, rowP, e1]
      cases wi a 1 20 <;> simp [e2]
      cases wi b 0 n <;> simp [e3]
  · have a : rowP n (.tup xs) = false := by
      match xs with
      | [] => rfl
      | [_] => rfl
      | [_, _] => rfl
      | [_, _, _] => exact absurd rfl hl
      | _ :: _ :: _ :: _ :: _ => rfl
    have hl' : ¬ (xs.length : Int) = 3 := by omega
    simp [b__law_is_row, a, hl']
theorem wi_not {x : D} {a b : Int} (h : ∀ i, x ≠ .int i) : wi x a b = false := by
  cases x <;> first | rfl | exact absurd rfl (h _)
theorem init_due {S : Store} {x y : D} {l : Nat} (hl : S[l]? = some (.ins "Buckets" [])) (hx : Pd 100000 x) (hy : Pd 100000 y) :
    m_Buckets_init [.ref l, x, y] S = match dueO x y with
      | none => .ok .non (S.set l (.ins "Buckets" [("bottom", x), ("rows", y)]))
      | some d => .exc "BadBuckets" [("part", d)] S := by
  have w : (m_Buckets_init [.ref l, x, y] S).wp (fun v S' => v = .non ∧ dueO x y = none ∧ S' = S.set l (.ins "Buckets" [("bottom", x), ("rows", y)])) (fun c fs S' => ∃ d, dueO x y = some d ∧ c = "BadBuckets" ∧ fs = ([("part", d)] : List (Str × D)) ∧ S' = S) := by
    refine fn_wp rfl ?_
    have sg : ∀ o, (S.set l o)[l]? = some o := fun o => set_get o (lt_of_get hl)
    have e1 := oword (hx S) 1 20
    simp [b_Buckets_init, e1]
    cases q : wi x 1 20 with
    | false => simp [dueO, q, sRaiseA, flds]
    | true =>
      obtain ⟨n, rfl, n1, n2⟩ := wi_t q
      have hy' := hy S
      have dq : dueO (.int n) y = rowsD n y := by simp only [dueO, q, if_true]; rfl
      rw [dq]
      simp
      cases y <;> first
        | (simp at hy'; done)
        | (simp [rowsD, sRaiseA, flds]; done)
        | (rcases so_ref hy' with ⟨t, kvs, e⟩ | ⟨c, fs, e, hc⟩ <;> simp [rowsD, tyName, e, sRaiseA, flds] <;> simp_all; done)
        | skip
      rename_i ys
      obtain ⟨hy1, hy2⟩ := hy.tup
      by_cases hlen : 1 ≤ ys.length ∧ ys.length ≤ 12
      · have h1 : (1 : Int) ≤ ys.length := by omega
        have h2 : (ys.length : Int) ≤ 12 := by omega
        simp [h1, h2]
        refine for_wp (I := fun zs r' S' => S' = S ∧ ∃ us j z3 z4, zs = enumD j us ∧ (∀ u ∈ us, Pd 100000 u) ∧ rowGo n j us = rowGo n 0 ys ∧ r' = [.val (.ref l), .val (.int n), .val (.tup ys), z3, z4]) (fun z zs r' S' hI => ?_) (fun r' S' hI => ?_) ⟨rfl, ys, 0, .un, .un, rfl, hy2, rfl, rfl⟩
        · obtain ⟨rfl, us, j, z3, z4, e, hus, hgo, rfl⟩ := hI
          cases us with
          | nil => cases e
          | cons u us =>
            cases e
            refine ⟨trivial, _, by simp; rfl, ?_⟩
            simp [orow (hus u (List.mem_cons_self ..) S')]
            cases qr : rowP n u with
            | true =>
              simp
              simp [rowGo, qr] at hgo
              exact ⟨us, j + 1, rfl, fun u hu => hus u (List.mem_cons_of_mem _ hu), hgo⟩
            | false =>
              simp
              simp [rowGo, qr] at hgo
              simp [rowsD, hlen, ← hgo, sRaiseA, flds]
        · obtain ⟨rfl, us, j, z3, z4, e, hus, hgo, rfl⟩ := hI
          have : us = [] := by cases us with
            | nil => rfl
            | cons _ _ => cases e
          subst this
          simp [rowGo] at hgo
          simp [hl, putFD, sg, rowsD, hlen, ← hgo]
      · have h12 : ¬ ((1 : Int) ≤ ys.length ∧ (ys.length : Int) ≤ 12) := by omega
        have rd : rowsD n (.tup ys) = some (.str "rows") := by simp [rowsD, hlen]
        by_cases h1 : (1 : Int) ≤ ys.length
        · have h2 : ¬ (ys.length : Int) ≤ 12 := fun z => h12 ⟨h1, z⟩
          simp [h1, h2, rd, sRaiseA, flds]
        · simp [h1, rd, sRaiseA, flds]
  cases q : m_Buckets_init [.ref l, x, y] S with
  | ok v S' =>
    rw [q] at w
    obtain ⟨rfl, e, rfl⟩ := w
    rw [e]
  | exc c fs S' =>
    rw [q] at w
    obtain ⟨d, e, rfl, rfl, rfl⟩ := w
    rw [e]
  | bad => rw [q] at w; exact w.elim
theorem due_ok {S : Store} {x y : D} (hx : Pd 100000 x) (hy : Pd 100000 y) : m__law_due [x, y] S = .ok ((dueO x y).getD .non) S := by
  refine wp_eq (fn_wp rfl ?_)
  have e1 := lword (hx S) 1 20
  simp [b__law_due, e1]
  cases q : wi x 1 20 with
  | false => simp [dueO, q]
  | true =>
    obtain ⟨n, rfl, n1, n2⟩ := wi_t q
    have hy' := hy S
    have dq : dueO (.int n) y = rowsD n y := by simp only [dueO, q, if_true]; rfl
    rw [dq]
    simp
    cases y <;> first
      | (simp at hy'; done)
      | (simp [rowsD]; done)
      | (rcases so_ref hy' with ⟨t, kvs, e⟩ | ⟨c, fs, e, hc⟩ <;> simp [rowsD, tyName, e] <;> simp_all; done)
      | skip
    rename_i ys
    obtain ⟨hy1, hy2⟩ := hy.tup
    by_cases hlen : 1 ≤ ys.length ∧ ys.length ≤ 12
    · have h1 : (1 : Int) ≤ ys.length := by omega
      have h2 : (ys.length : Int) ≤ 12 := by omega
      simp [h1, h2]
      refine for_wp (I := fun zs r' S' => S' = S ∧ ∃ us j z3 z4, zs = enumD j us ∧ (∀ u ∈ us, Pd 100000 u) ∧ rowGo n j us = rowGo n 0 ys ∧ r' = [.val (.int n), .val (.tup ys), z3, z4]) (fun z zs r' S' hI => ?_) (fun r' S' hI => ?_) ⟨rfl, ys, 0, .un, .un, rfl, hy2, rfl, rfl⟩
      · obtain ⟨rfl, us, j, z3, z4, e, hus, hgo, rfl⟩ := hI
        cases us with
        | nil => cases e
        | cons u us =>
          cases e
          refine ⟨trivial, _, by simp; rfl, ?_⟩
          simp [lrow (hus u (List.mem_cons_self ..) S')]
          cases qr : rowP n u with
          | true =>
            simp
            simp [rowGo, qr] at hgo
            exact ⟨us, j + 1, rfl, fun u hu => hus u (List.mem_cons_of_mem _ hu), hgo⟩
          | false =>
            simp
            simp [rowGo, qr] at hgo
            simp [rowsD, hlen, ← hgo]
      · obtain ⟨rfl, us, j, z3, z4, e, hus, hgo, rfl⟩ := hI
        have : us = [] := by cases us with
          | nil => rfl
          | cons _ _ => cases e
        subst this
        simp [rowGo] at hgo
        simp [rowsD, hlen, ← hgo]
    · have h12 : ¬ ((1 : Int) ≤ ys.length ∧ (ys.length : Int) ≤ 12) := by omega
      have rd : rowsD n (.tup ys) = some (.str "rows") := by simp [rowsD, hlen]
      by_cases h1 : (1 : Int) ≤ ys.length
      · have h2 : ¬ (ys.length : Int) ≤ 12 := fun z => h12 ⟨h1, z⟩
        simp [h1, h2, rd]
      · simp [h1, rd]
theorem told_ok {S : Store} {x y : D} (hx : Pd 100000 x) (hy : Pd 100000 y) : m__law_told [x, y] S = match dueO x y with
      | none => .ok (.tup [.non, .ref S.length]) (S ++ [.ins "Buckets" [("bottom", x), ("rows", y)]])
      | some d => .ok (.tup [d, .non]) (S ++ [.ins "Buckets" []]) := by
  have h := init_due (S := S ++ [.ins "Buckets" []]) (l := S.length) (by simp) hx hy
  cases q : dueO x y with
  | none =>
    rw [q] at h
    simp [m__law_told, fnD_fin, b__law_told, sTry, deexc, Sl.deexc, h]
  | some d =>
    rw [q] at h
    simp [m__law_told, fnD_fin, b__law_told, sTry, deexc, Sl.deexc, h, handleD, Dn.held, eIsExc, eExcF, unb, clr]
end L54

end
section
set_option Elab.async false
set_option linter.all false
set_option maxRecDepth 100000
set_option maxHeartbeats 4000000
/-! alike; the law's breach -/
namespace L54
open PySem Dn Pg
theorem zipD_self : ∀ xs : List D, zipD xs xs = xs.map fun x => D.tup [x, x]
  | [] => rfl
  | x :: xs => by simp [zipD, zipD_self xs]
theorem same_n {S : Store} : ∀ (k : Nat) {d : D}, k ≤ 60 → D.pl k d = true → d.soi [] 1000 S = true → m__law_same_n (k + 1) [d, d] S = .ok (.bl true) S := by
  intro k
  induction k with
  | zero =>
    intro d _ hp hs
    show fnD 2 4 (b__law_same (m__law_same_n 0)) [d, d] S = _
    refine wp_eq (fn_wp rfl ?_)
    have e := cmpEq_same (S := S) (pl_mono (m := 64) (Nat.zero_le _) hp)
    cases d <;> first
      | (simp [D.pl] at hp; done)
      | (simp [b__law_same, e]; done)
  | succ k ih =>
    intro d hk hp hs
    show fnD 2 4 (b__law_same (m__law_same_n (k + 1))) [d, d] S = _
    refine wp_eq (fn_wp rfl ?_)
    have e := cmpEq_same (S := S) (pl_mono (m := 64) (by omega) hp)
    cases d with
    | tup xs =>
      simp only [D.pl] at hp
      simp at hs
      have hz : wkZ S (.tup xs) (.tup xs) = some (wkS (xs.map fun x => D.tup [x, x])) := by
        rw [← zipD_self]; rfl
      have l : xs.length ≤ 16777216 := by omega
      simp [b__law_same, hz, l]
      refine wp_of (lc_mapA (enc := fun x => D.tup [x, x]) (f := fun _ => D.bl true) trivial fun x hx => ⟨_, by simp; rfl, by simp [ih (by omega) (pls_mem hp x hx) (sos_mem hs.2 hx)]⟩) ?_
      simp [boolsOf]
    | lst xs =>
      simp only [D.pl] at hp
      simp at hs
      have hz : wkZ S (.lst xs) (.lst xs) = some ⟨xs.map fun x => D.tup [x, x], fun _ => True ∧ True⟩ := by
        rw [← zipD_self]; rfl
      have l : xs.length ≤ 16777216 := by omega
      simp [b__law_same, hz, l]
      refine wp_of (lc_mapA (enc := fun x => D.tup [x, x]) (f := fun _ => D.bl true) trivial fun x hx => ⟨_, by simp; rfl, by simp [ih (by omega) (pls_mem hp x hx) (sos_mem hs.2 hx)]⟩) ?_
      simp [boolsOf]
    | ref l => simp [D.pl] at hp
    | cls l => simp [D.pl] at hp
    | fn l => simp [D.pl] at hp
    | non => simp [b__law_same, e]
    | bl b => simp [b__law_same, e]
    | int b => simp [b__law_same, e]
    | str b => simp [b__law_same, e]
theorem same_ok {S : Store} {d : D} (hp : D.pl 3 d = true) (hs : d.soi [] 1000 S = true) : m__law_same [d, d] S = .ok (.bl true) S := same_n 3 (by decide) hp hs
theorem rg_down (b : Nat) (hb : b ≤ 100000) : rg3 b (-1) (-1) = some (wkS (rangeC b (-1) (b + 1))) := by
  have e : Builtin.Range.rangeSize b (-1) (-1) = ((b + 1 : Nat) : Int) := by
    unfold Builtin.Range.rangeSize
    rw [if_neg (by decide), if_pos (by omega), show -(-1 : Int) = 1 from rfl, Int.ediv_one]
    omega
  unfold rg3
  rw [e]
  have s : Builtin.Range.small b (-1) (-1) = true := by
    unfold Builtin.Range.small
    rw [e]
    unfold Builtin.Range.rangeFitsLong
    simp
    omega
  rw [s, if_pos]
  · simp
  · rw [sizeLine_val]
    simp
    omega
def lotD (l : List Int) : D := .tup (l.map D.int)
def sD (s : Strm) : D := .tup (s.map lotD)
theorem in_lot {S : Store} {r : Rho} {a : DE} {b : DL} {i : Int} {l : List Int} {sc : Src} (h1 : a r S = .ok (.int i) S) (h2 : b r S = .ok sc S) (h3 : sc.get r S = some (l.map D.int)) : eIn false a b r S = .ok (.bl (decide (i ∈ l))) S := by
  have pl : D.pls 63 (l.map D.int) = true := pls_of' fun x hx => by
    obtain ⟨i, _, rfl⟩ := List.mem_map.mp hx
    rfl
  rw [eIn_ap, h1, Rs.bind_ok, h2, Rs.bind_ok, h3, Rs.ofO_some, Rs.bind_ok, pl, anyI_eq]
  rfl
theorem lot_at {s : Strm} {j : Nat} (h : j < s.length) : atD (s.map lotD) (j : Int) = some (lotD (lotA s j)) := by
  rw [atD_at (by simpa using h), List.getElem?_map, List.getElem?_eq_getElem h]
  simp [lotA, h]
def okS (m : Nat) (s : Strm) : Prop := s.length ≤ 1000 ∧ ∀ l ∈ s, l.length ≤ 100 ∧ l.Pairwise (· < ·) ∧ ∀ i ∈ l, 0 ≤ i ∧ i < m
theorem lbreach {S : Store} {n : Int} {rows : List (Option Row)} {s : Strm} (hn : 0 < n) (hn2 : n ≤ 20) (hr : okRows n rows) {w : D} (hw : w = brD n rows s) (hs : s.length ≤ 1000) : m__law_breach [.tup (rows.map rD), .int n, sD s] S = .ok w S := by
  refine wp_eq (fn_wp rfl ?_)
  simp [b__law_breach, sD]
  refine range1_wp ?_
  simp
  refine ⟨by omega, ?_⟩
  refine for_wp (I := fun zs r S' => ∃ (b : Nat) (z3 z4 z5 z6 z7 : Sl), b ≤ s.length ∧ zs = ((List.range s.length).map fun (j : Nat) => D.int j).drop b ∧ brGo n rows s b (s.length - b) = w ∧ S' = S ∧ r = [.val (.tup (rows.map rD)), .val (.int n), .val (sD s), z3, z4, z5, z6, z7]) (fun z zs r S' h => ?_) (fun r S' h => ?_) ⟨0, .un, .un, .un, .un, .un, Nat.zero_le _, rfl, hw.symm, rfl, rfl⟩
  · obtain ⟨b, z3, z4, z5, z6, z7, hb, hz, hgo, rfl, rfl⟩ := h
    have hb' : b < s.length := by
      refine Classical.byContradiction fun q => ?_
      have : ((List.range s.length).map fun (j : Nat) => D.int j).length ≤ b := by simp; omega
      rw [List.drop_eq_nil_of_le this] at hz; cases hz
    rw [List.drop_eq_getElem_cons (by simpa using hb')] at hz
    simp at hz
    obtain ⟨rfl, hz⟩ := hz
    have hgo' : brGo n rows s b (s.length - b) = match brLine n s b 0 rows with
      | some d => d
      | none => brGo n rows s (b + 1) (s.length - (b + 1)) := by
      rw [show s.length - b = (s.length - (b + 1)) + 1 by omega]; rfl
    simp
    have stop : ∀ d, brLine n s b 0 rows = some d → w = d := fun d e => by rw [e] at hgo'; rw [← hgo, hgo']
    have go : brLine n s b 0 rows = none → brGo n rows s (b + 1) (s.length - (b + 1)) = w := fun e => by rw [e] at hgo'; exact hgo'.symm.trans hgo
    refine for_wp (I := fun ys r S'' => ∃ (i : Nat) (rs : List (Option Row)) (z4 z5 z6 z7 : Sl), ys = enumD i (rs.map rD) ∧ (∀ x ∈ rs, x ∈ rows) ∧ brLine n s b i rs = brLine n s b 0 rows ∧ S'' = S' ∧ r = [.val (.tup (rows.map rD)), .val (.int n), .val (sD s), .val (.int b), z4, z5, z6, z7]) (fun y ys r S'' h => ?_) (fun r S'' h => ?_) ⟨0, rows, _, _, _, _, rfl, fun _ h => h, rfl, rfl, rfl⟩
    · obtain ⟨i, rs, z4, z5, z6, z7, e, hin, hbl, rfl, rfl⟩ := h
      cases rs with
      | nil => cases e
      | cons row rs =>
        cases e
        have hrow : ∀ x, row = some x → okRow n x := fun x hx => hr.2.2 row (hin row (List.mem_cons_self ..)) x hx
        refine ⟨trivial, _, by simp; rfl, ?_⟩
        simp
        refine wp_of (iRange3_at (i := (b : Int)) (j := -1) (k := -1) (S1 := S'') (S2 := S'') (S3 := S'') (by simp) (by simp [opNeg]) (by simp [opNeg]) (rg_down b (by omega))) ?_
        simp
        refine for_wp (I := fun ys r S3 => ∃ (k : Nat) (z7 : Sl), k ≤ b + 1 ∧ ys = (rangeC b (-1) (b + 1)).drop k ∧ (∀ j < k, bad n row s i b (j + 1) = false) ∧ S3 = S'' ∧ r = [.val (.tup (rows.map rD)), .val (.int n), .val (sD s), .val (.int b), .val (.int i), .val (rD row), .val (.int (W s i b k)), z7]) (fun y ys r S3 h => ?_) (fun r S3 h => ?_) ⟨0, _, Nat.zero_le _, rfl, by simp, rfl, rfl⟩
        · obtain ⟨k, z7, hk, hys, hb1, rfl, rfl⟩ := h
          have rl : (rangeC (b : Int) (-1) (b + 1)).length = b + 1 := by simp [rangeC]
          have hk' : k < b + 1 := by
            refine Classical.byContradiction fun q => ?_
            rw [List.drop_eq_nil_of_le (by omega)] at hys; cases hys
          rw [List.drop_eq_getElem_cons (by omega)] at hys
          simp only [List.cons.injEq] at hys
          obtain ⟨rfl, hys⟩ := hys
          have hy : (rangeC (b : Int) (-1) (b + 1))[k]'(by omega) = .int ((b - k : Nat) : Int) := by
            simp [rangeC]; omega
          have la := lot_at (s := s) (j := b - k) (by omega)
          have ei : eIn false (eVar 4) (lE (eIx (lE (eVar 2)) (eVar 7))) [.val (.tup (rows.map rD)), .val (.int n), .val (sD s), .val (.int b), .val (.int i), .val (rD row), .val (.int (W s i b k)), .val (.int ((b - k : Nat) : Int))] S3 = .ok (.bl (decide ((i : Int) ∈ lotA s (b - k)))) S3 := in_lot (sc := .cst true ((lotA s (b - k)).map D.int)) (by simp) (by simp [sD, la, lotD]) (by simp)
          refine ⟨trivial, _, by simp [hy]; rfl, ?_⟩
          have kk : ((b : Int) - ((b - k : Nat) : Int) + 1) = (k : Int) + 1 := by omega
          have es := sentO2 (b := (k : Int) + 1) S3 hn (by omega) hrow (by omega) (by omega)
          have wk : W s i b k + (if (i : Int) ∈ lotA s (b - k) then 1 else 0) = W s i b (k + 1) := rfl
          simp only [sSeq_ap, sSet_ap]
          simp [ei]
          rw [kk, wk]
          simp [es]
          cases qb : bad n row s i b (k + 1) with
          | true =>
            have q2 : sntO n row ((k : Int) + 1) < W s i b (k + 1) := by simpa [bad] using qb
            have bk : brk n row s i b = some k := find_first hk' qb hb1
            have bl : brLine n s b i (row :: rs) = some (.tup [.int i, .int ((b - k : Nat) : Int), .int b]) := by simp only [brLine, bk]
            have := stop _ (hbl.symm.trans bl)
            simp [q2, this]
          | false =>
            have q2 : ¬ sntO n row ((k : Int) + 1) < W s i b (k + 1) := by simpa [bad] using qb
            simp [q2]
            refine ⟨k + 1, by omega, hys, fun j hj => ?_, rfl⟩
            by_cases e : j = k
            · subst e; exact qb
            · exact hb1 j (by omega)
        · obtain ⟨k, z7, hk, hys, hb1, rfl, rfl⟩ := h
          have rl : (rangeC (b : Int) (-1) (b + 1)).length = b + 1 := by simp [rangeC]
          have e : b + 1 - k = 0 := by
            have : (rangeC (b : Int) (-1) (b + 1)).length - k = 0 := by rw [← List.length_drop, ← hys]; rfl
            omega
          have bk : brk n row s i b = none := brk_none.mpr fun m hm => hb1 (b - m) (by omega)
          have bl : brLine n s b i (row :: rs) = brLine n s b (i + 1) rs := by simp only [brLine, bk]
          exact ⟨trivial, i + 1, rs, _, _, _, _, rfl, fun x hx => hin x (List.mem_cons_of_mem _ hx), bl.symm.trans hbl, rfl, rfl⟩
    · obtain ⟨i, rs, z4, z5, z6, z7, e, hin, hbl, rfl, rfl⟩ := h
      have : rs = [] := by cases rs with
        | nil => rfl
        | cons _ _ => cases e
      subst this
      exact ⟨trivial, b + 1, _, _, _, _, _, hb', hz, go (by rw [← hbl]; rfl), rfl, rfl⟩
  · obtain ⟨b, z3, z4, z5, z6, z7, hb, hz, hgo, rfl, rfl⟩ := h
    have e : s.length - b = 0 := by
      have : ((List.range s.length).map fun (j : Nat) => D.int j).length - b = 0 := by
        rw [← List.length_drop, ← hz]; rfl
      simpa using this
    rw [e] at hgo
    simp
    exact hgo
end L54

end
section
set_option Elab.async false
set_option linter.all false
set_option maxRecDepth 100000
set_option maxHeartbeats 4000000
/-! the program's Sent -/
namespace L54
open PySem Dn Pg
theorem maxI_ex {ns : List Int} (h : ns ≠ []) : ∃ m, maxI ns = some m ∧ m ∈ ns ∧ ∀ y ∈ ns, y ≤ m := by
  cases ns with
  | nil => exact absurd rfl h
  | cons x xs => exact ⟨_, rfl, maxI_spec rfl⟩
theorem ints_id (ns : List Int) : intsOf (ns.map D.int) = some ns := by
  have := intsOf_map (fun x : Int => x) ns
  simpa using this
abbrev snO (n : Int) (row : Option Row) (l : Nat) (least : Int) : SO := .ins "Sent" [("kept_bottom", .int n), ("kept_row", rD row), ("kept_levels", .ref l), ("kept_least", .int least)]
def lvs (f : Nat → Int) (c : Nat) : List D := (List.range (c + 1)).map fun j => D.int (f j)
def leastF (f : Nat → Int) : Nat → Int
  | 0 => f 0
  | c + 1 => min (leastF f c) (f (c + 1))
theorem least_le (f : Nat → Int) : ∀ c, (∀ m ≤ c, leastF f c ≤ f m) ∧ ∃ m, m ≤ c ∧ leastF f c = f m
  | 0 => ⟨fun m h => by rw [Nat.le_zero.mp h]; exact Int.le_refl _, 0, Nat.le_refl _, rfl⟩
  | c + 1 => by
    obtain ⟨h1, m, h2, h3⟩ := least_le f c
    refine ⟨fun k hk => ?_, ?_⟩
    · simp only [leastF]
      by_cases e : k = c + 1
      · rw [e]; omega
      · have := h1 k (by omega); omega
    · by_cases q : leastF f c ≤ f (c + 1)
      · exact ⟨m, by omega, by simp only [leastF]; omega⟩
      · exact ⟨c + 1, Nat.le_refl _, by simp only [leastF]; omega⟩
def levR (n : Int) (row : Option Row) (s : Strm) (i : Int) : Nat → Int := match row with
  | none => fun _ => 0
  | some r => Lv n r.2.1 s i
theorem lvs_snoc (f : Nat → Int) (c : Nat) : lvs f (c + 1) = lvs f c ++ [.int (f (c + 1))] := by
  unfold lvs
  rw [List.range_succ, List.map_append]; rfl
theorem lvs_last (f : Nat → Int) (c : Nat) : atD (lvs f c) (-1) = some (.int (f c)) := by
  unfold lvs
  rw [List.range_succ, List.map_append]
  exact atD_last _ _
theorem lvs_len (f : Nat → Int) (c : Nat) : (lvs f c).length = c + 1 := by simp [lvs]
theorem lv0 (n : Int) (row : Option Row) (s : Strm) (i : Int) : levR n row s i 0 = 0 := by cases row <;> rfl
theorem sent_init {S : Store} {n : Int} {row : Option Row} {l : Nat} (hl : S[l]? = some (.ins "Sent" [])) (s : Strm) (i : Int) :
    m_Sent_init [.ref l, .int n, rD row] S = .ok .non ((S.set l (snO n row S.length (leastF (levR n row s i) 0))) ++ [.lst (lvs (levR n row s i) 0)]) := by
  have h := lt_of_get hl
  refine wp_eq (fn_wp rfl ?_)
  have sg : ∀ o, (S.set l o)[l]? = some o := fun o => set_get o h
  have gx : ∀ o t, (S.set l o ++ t)[l]? = some o := fun o t => by rw [List.getElem?_append_left (by simpa using h)]; exact sg o
  have sa : ∀ o o' t, (S.set l o ++ t).set l o' = S.set l o' ++ t := fun o o' t => by rw [List.set_append_left _ _ (by simpa using h), List.set_set]
  have f0 : lvs (levR n row s i) 0 = [.int 0] := by
    show [D.int (levR n row s i 0)] = _
    rw [lv0]
  have l0 : leastF (levR n row s i) 0 = 0 := lv0 n row s i
  rw [f0, l0]
  simp [b_Sent_init, hl, putFD, sg, gx, sa]
def brV (n : Int) (row : Option Row) (s : Strm) (i : Int) (b : Nat) : D := match brk n row s i b with
  | none => .non
  | some k => .int ((b - k : Nat) : Int)
theorem enum_range (g : Nat → D) : ∀ (N k : Nat), enumD k ((List.range' k N).map g) = (List.range' k N).map fun (x : Nat) => D.tup [.int x, g x]
  | 0, _ => rfl
  | N + 1, k => by
    rw [List.range'_succ, List.map_cons, List.map_cons, enumD, enum_range g N (k + 1)]
theorem take_none {S : Store} {n : Int} {a b : Nat} {i : Int} {s : Strm} (ha : S[a]? = some (snO n none (a + 1) 0)) (hb : S[a + 1]? = some (.lst (lvs (levR n none s i) b))) (hbl : b ≤ 1000) (no : ∀ j < b, at1 s j i = 0) :
    m_Sent_take [.ref a, .bl (decide (i ∈ lotA s b))] S = .ok (brV n none s i b) (S.set (a + 1) (.lst (lvs (levR n none s i) (b + 1)))) := by
  refine wp_eq (fn_wp rfl ?_)
  have hl' := lt_of_get hb
  have sb : ∀ o, (S.set (a + 1) o)[a + 1]? = some o := fun o => set_get o hl'
  have ll := lvs_len (levR n none s i) b
  have l2 := lvs_len (levR n none s i) (b + 1)
  have l3 : b + 1 < 16777216 := by omega
  have sn := lvs_snoc (levR n none s i) b
  have f0 : levR n none s i (b + 1) = 0 := rfl
  rw [f0] at sn
  have sg : ∀ o, (S.set (a + 1) o)[a]? = some (snO n none (a + 1) 0) := fun o => by rw [set_get_ne o (by omega)]; exact ha
  have v : brV n none s i b = if i ∈ lotA s b then .int b else .non := by
    unfold brV
    by_cases q : i ∈ lotA s b
    · have : brk n none s i b = some (b - b) := brk_some (Nat.le_refl _) (by
        unfold bad
        simp only [Nat.sub_self, sntO, W, at1]
        simp [q]) fun j hj _ => hj
      rw [this, if_pos q]; simp
    · have z : ∀ k, k ≤ b + 1 → W s i b k = 0 := by
        intro k
        induction k with
        | zero => intro _; rfl
        | succ k ih =>
          intro hk
          have : at1 s (b - k) i = 0 := by
            by_cases e : k = 0
            · subst e; unfold at1; rw [if_neg (by simpa using q)]
            · exact no _ (by omega)
          simp only [W, ih (by omega), this]; rfl
      have : brk n none s i b = none := brk_none.mpr fun m hm => by
        unfold bad
        rw [z _ (by omega)]; rfl
      rw [this, if_neg q]
  clear hl'
  simp [b_Sent_take, ha, hb, rD, ll, l3, sg, sb, ← sn, l2]
  by_cases q : i ∈ lotA s b
  · rw [if_pos q] at v
    simp [q, srcOf, Src.get, sb, l2, opSub, v]
    omega
  · rw [if_neg q] at v
    simp [q, v]
theorem take_some {S : Store} {n : Int} {a b : Nat} {r : Row} {i : Int} {s : Strm} (hn : 0 < n) (hn2 : n ≤ 100) (hr : okRow n r) (ha : S[a]? = some (snO n (some r) (a + 1) (leastF (levR n (some r) s i) b))) (hb : S[a + 1]? = some (.lst (lvs (levR n (some r) s i) b))) (hbl : b ≤ 1000) :
    m_Sent_take [.ref a, .bl (decide (i ∈ lotA s b))] S = .ok (brV n (some r) s i b) ((S.set (a + 1) (.lst (lvs (levR n (some r) s i) (b + 1)))).set a (snO n (some r) (a + 1) (leastF (levR n (some r) s i) (b + 1)))) := by
  obtain ⟨f, hf⟩ : ∃ f, f = levR n (some r) s i := ⟨_, rfl⟩
  have fb : ∀ m ≤ b, bad n (some r) s i b (b - m + 1) = decide (f m < f (b + 1) - n * r.1) := fun m hm => by rw [bad_lv hn hm, hf]; rfl
  have fs : f (b + 1) = f b + (if i ∈ lotA s b then n else 0) - r.2.1 := by
    rw [hf]
    show Lv n r.2.1 s i b + n * at1 s b i - r.2.1 = _
    unfold at1
    by_cases q : i ∈ lotA s b <;> simp [q] <;> rfl
  rw [← hf] at ha hb ⊢
  refine wp_eq (fn_wp rfl ?_)
  have hl' := lt_of_get hb
  have hl2 := lt_of_get ha
  have sb : ∀ o, (S.set (a + 1) o)[a + 1]? = some o := fun o => set_get o hl'
  have sg : ∀ o, (S.set (a + 1) o)[a]? = S[a]? := fun o => set_get_ne o (by omega)
  have sh : ∀ o p, ((S.set (a + 1) o).set a p)[a]? = some p := fun o p => set_get p (by simpa using hl2)
  have sk : ∀ o p, ((S.set (a + 1) o).set a p)[a + 1]? = some o := fun o p => by rw [set_get_ne p (by omega)]; exact sb o
  have ll := lvs_len f b
  have l2 := lvs_len f (b + 1)
  have l3 : b + 1 < 16777216 := by omega
  have l4 : b + 1 + 1 ≤ 16777216 := by omega
  have la := lvs_last f b
  have sn := lvs_snoc f b
  have r1 : 1 ≤ r.1 := hr.1
  have mo : mulOk n r.1 = true := by
    obtain ⟨h1, h2, h3, h4, h5, h6⟩ := hr
    exact mulOk_sm (by omega) (by omega) (by omega) (by omega)
  clear hl' hl2
  have step : (f b + if i ∈ lotA s b then n else 0) - r.2.1 = f (b + 1) := fs.symm
  simp [b_Sent_take]
  simp [ha, hb, rD, rT, srcOf, Src.get, la, opNeg, opAdd, opSub, step, ll, l3, ← sn, sg, sb, mul_i mo, min_if, putFD]
  have lf : min (leastF f b) (f (b + 1)) = leastF f (b + 1) := rfl
  rw [lf]
  obtain ⟨lo1, m0, lo2, lo3⟩ := least_le f b
  by_cases q : f (b + 1) - n * r.1 ≤ leastF f b
  · have bn : brk n (some r) s i b = none := brk_none.mpr fun m hm => by
      rw [fb m hm]
      have := lo1 m hm
      simp; omega
    simp [q, brV, bn]
    rfl
  · simp [q]
    have hso : SO.ins (Str.ofString "Sent") [(Str.ofString "kept_bottom", D.int n), (Str.ofString "kept_row", D.tup [D.int r.1, D.int r.2.1, D.int r.2.2]), (Str.ofString "kept_levels", D.ref (a + 1)), (Str.ofString "kept_least", D.int (leastF f (b + 1)))] = snO n (some r) (a + 1) (leastF f (b + 1)) := rfl
    rw [hso]
    obtain ⟨so, hso⟩ : ∃ so, so = snO n (some r) (a + 1) (leastF f (b + 1)) := Exists.intro _ (Eq.refl _)
    have en : enumD 0 (lvs f (b + 1)) = (List.range (b + 2)).map fun (x : Nat) => D.tup [.int x, .int (f x)] := by
      unfold lvs
      rw [List.range_eq_range', enum_range (fun j => D.int (f j))]
    have sf := sh (.lst (lvs f (b + 1))) (snO n (some r) (a + 1) (leastF f (b + 1)))
    have sk2 := sk (.lst (lvs f (b + 1))) (snO n (some r) (a + 1) (leastF f (b + 1)))
    obtain ⟨T, hT⟩ : ∃ T, T = (S.set (a + 1) (.lst (lvs f (b + 1)))).set a (snO n (some r) (a + 1) (leastF f (b + 1))) := Exists.intro _ (Eq.refl _)
    rw [← hT] at sf sk2 ⊢
    have wk : wkOf T (.ref (a + 1)) = some ⟨lvs f (b + 1), fun S => S[a + 1]? = some (.lst (lvs f (b + 1)))⟩ := by
      simp only [wkOf, sk2]
    simp [eMaxL, sf, wk, en, l2]
    refine wp_of (lc_fmA (enc := fun x : Nat => D.tup [.int x, .int (f x)]) (p := fun x => decide (f x < f (b + 1) - n * r.1)) (f := fun x => .int x) sk2 fun x hx => ⟨_, by simp; rfl, by simp, by simp⟩) ?_
    obtain ⟨m, hm1, hm2, hm3⟩ := maxI_ex (ns := ((List.range (b + 2)).filter fun x => decide (f x < f (b + 1) - n * r.1)).map fun x : Nat => (x : Int)) (by
      intro z
      have : m0 ∈ (List.range (b + 2)).filter fun x => decide (f x < f (b + 1) - n * r.1) := by
        rw [List.mem_filter, List.mem_range]
        exact ⟨by omega, by simp; omega⟩
      have : ((m0 : Nat) : Int) ∈ ([] : List Int) := by rw [← z]; exact List.mem_map_of_mem this
      cases this)
    have ei : intsOf (((List.range (b + 2)).filter fun x => decide (f x < f (b + 1) - n * r.1)).map fun (x : Nat) => D.int x) = some (((List.range (b + 2)).filter fun x => decide (f x < f (b + 1) - n * r.1)).map fun x : Nat => (x : Int)) := by
      have := ints_id (((List.range (b + 2)).filter fun x => decide (f x < f (b + 1) - n * r.1)).map fun x : Nat => (x : Int))
      rw [List.map_map] at this
      exact this
    obtain ⟨k, hk, rfl⟩ := List.mem_map.mp hm2
    rw [List.mem_filter, List.mem_range] at hk
    obtain ⟨hk1, hk2⟩ := hk
    simp only [decide_eq_true_eq] at hk2
    have pos : 0 < n * r.1 := Int.mul_pos hn (by omega)
    have hkb : k ≤ b := by
      by_cases e : k = b + 1
      · subst e; omega
      · omega
    have bs : brk n (some r) s i b = some (b - k) := brk_some hkb (by rw [fb k hkb]; simpa using hk2) fun j hj hb' => by
      rw [fb j hj] at hb'
      have hb' : f j < f (b + 1) - n * r.1 := by simpa using hb'
      have := hm3 (j : Int) (List.mem_map.mpr ⟨j, by rw [List.mem_filter, List.mem_range]; exact ⟨by omega, by simpa using hb'⟩, rfl⟩)
      omega
    have v : brV n (some r) s i b = .int k := by
      unfold brV
      rw [bs]
      show D.int _ = _
      congr 1; omega
    simp [ei, hm1, v]
end L54

end
section
set_option Elab.async false
set_option linter.all false
set_option maxRecDepth 100000
set_option maxHeartbeats 4000000
/-! the program's breach -/
namespace L54
open PySem Dn Pg
theorem isw {S : Store} (x a b : Int) : m_is_within [.int x, .int a, .int b] S = .ok (.bl (decide (a ≤ x ∧ x ≤ b))) S := within x a b S
theorem lot_ok {S : Store} {l : List Int} {m : Int} (hp : l.Pairwise (· < ·)) (hb : ∀ i ∈ l, 0 ≤ i ∧ i < m) : m_is_lot [lotD l, .int m] S = .ok (.bl true) S := by
  refine wp_eq (fn_wp rfl ?_)
  simp [b_is_lot, lotD, opNeg]
  refine for_wp (I := fun ys r S' => ∃ (us : List Int) (last : Int) (z : Sl), ys = us.map D.int ∧ us.Pairwise (· < ·) ∧ (∀ i ∈ us, last < i ∧ i < m) ∧ S' = S ∧ r = [.val (.tup (l.map D.int)), .val (.int m), .val (.int last), z]) (fun y ys r S' h => ?_) (fun r S' h => ?_) ⟨l, -1, .un, rfl, hp, fun i hi => ⟨by have := (hb i hi).1; omega, (hb i hi).2⟩, rfl, rfl⟩
  · obtain ⟨us, last, z, e, hus, hin, rfl, rfl⟩ := h
    cases us with
    | nil => cases e
    | cons u us =>
      cases e
      obtain ⟨h1, h2⟩ := hin u (List.mem_cons_self ..)
      rw [List.pairwise_cons] at hus
      have c : last + 1 ≤ u ∧ u ≤ m - 1 := by omega
      refine ⟨trivial, _, by simp; rfl, ?_⟩
      simp [opAdd, opSub, isw, c]
      exact ⟨us, rfl, hus.2, fun i hi => ⟨hus.1 i hi, (hin i (List.mem_cons_of_mem _ hi)).2⟩⟩
  · obtain ⟨us, last, z, e, hus, hin, rfl, rfl⟩ := h
    refine ⟨trivial, ?_⟩
    simp
theorem stream_ok {S : Store} {n : Int} {rows : List (Option Row)} {s : Strm} {l : Nat} (hl : S[l]? = some (bk n (.tup (rows.map rD)))) (hs : okS rows.length s) : m_check_stream [.ref l, sD s] S = .ok .non S := by
  refine wp_eq (fn_wp rfl ?_)
  have h1 : ¬ (6000 : Int) < s.length := by have := hs.1; omega
  simp [b_check_stream, sD, h1]
  refine wp_of (lc_mapA (enc := lotD) (f := fun _ => D.bl true) trivial fun x hx => ⟨_, by simp; rfl, by simp [hl, lot_ok (hs.2 x hx).2.1 (hs.2 x hx).2.2]⟩) ?_
  simp [boolsOf]
def tD (K m : Nat) : List D := (List.range m).map fun j => D.ref (K + 2 * j)
structure StP (K : Nat) (n : Int) (rows : List (Option Row)) (s : Strm) (k : Nat) (c : Nat → Nat) (S S' : Store) : Prop where
  old : ∀ l, l < K → S'[l]? = S[l]?
  len : S'.length = K + 2 * k
  ob : ∀ j row, j < k → rows[j]? = some row → S'[K + 2 * j]? = some (snO n row (K + 2 * j + 1) (leastF (levR n row s j) (c j))) ∧ S'[K + 2 * j + 1]? = some (.lst (lvs (levR n row s j) (c j)))
theorem StP.next {K : Nat} {n : Int} {rows : List (Option Row)} {s : Strm} {k : Nat} {c : Nat → Nat} {S S' S2 : Store} {i : Nat} {row : Option Row} (h : StP K n rows s k c S S') (hi : i < k) (hr : rows[i]? = some row)
    (h1 : S2[K + 2 * i]? = some (snO n row (K + 2 * i + 1) (leastF (levR n row s i) (c i + 1)))) (h2 : S2[K + 2 * i + 1]? = some (.lst (lvs (levR n row s i) (c i + 1)))) (hl : S2.length = S'.length) (ho : ∀ l, l ≠ K + 2 * i → l ≠ K + 2 * i + 1 → S2[l]? = S'[l]?) :
    StP K n rows s k (fun j => if j = i then c i + 1 else c j) S S2 := by
  refine ⟨fun l h' => by rw [ho l (by omega) (by omega)]; exact h.old l h', by rw [hl, h.len], fun j row' hj hr' => ?_⟩
  by_cases e : j = i
  · subst e
    rw [hr] at hr'; cases hr'
    simp only [if_true]
    exact ⟨h1, h2⟩
  · simp only [if_neg e]
    rw [ho _ (by omega) (by omega), ho _ (by omega) (by omega)]
    exact h.ob j row' hj hr'
theorem StP.snoc {K : Nat} {n : Int} {rows : List (Option Row)} {s : Strm} {k : Nat} {S S' : Store} {row : Option Row} (h : StP K n rows s k (fun _ => 0) S S') (hr : rows[k]? = some row) : StP K n rows s (k + 1) (fun _ => 0) S (S' ++ [snO n row (S'.length + 1) (leastF (levR n row s k) 0), .lst (lvs (levR n row s k) 0)]) := by
  have hl := h.len
  refine ⟨fun l h' => by rw [List.getElem?_append_left (by omega)]; exact h.old l h', by simp [hl]; omega, fun j row' hj hr' => ?_⟩
  by_cases e : j = k
  · subst e
    rw [hr] at hr'; cases hr'
    rw [List.getElem?_append_right (by omega), List.getElem?_append_right (by omega), hl, Nat.sub_self, show K + 2 * j + 1 - (K + 2 * j) = 1 by omega]
    exact ⟨rfl, rfl⟩
  · rw [List.getElem?_append_left (by omega), List.getElem?_append_left (by omega)]
    exact h.ob j row' (by omega) hr'
theorem tD_succ (K k : Nat) : tD K (k + 1) = tD K k ++ [.ref (K + 2 * k)] := by
  unfold tD
  rw [List.range_succ, List.map_append]; rfl
theorem least0 : ∀ b, leastF (fun _ => 0) b = 0
  | 0 => rfl
  | b + 1 => by simp only [leastF, least0 b]; rfl
theorem take_any {S : Store} {n : Int} {a b : Nat} {row : Option Row} {i : Int} {s : Strm} (hn : 0 < n) (hn2 : n ≤ 100) (hr : ∀ r, row = some r → okRow n r) (ha : S[a]? = some (snO n row (a + 1) (leastF (levR n row s i) b))) (hb : S[a + 1]? = some (.lst (lvs (levR n row s i) b))) (hbl : b ≤ 1000) (no : ∀ b' < b, brk n row s i b' = none) :
    ∃ S4, m_Sent_take [.ref a, .bl (decide (i ∈ lotA s b))] S = .ok (brV n row s i b) S4 ∧ S4[a]? = some (snO n row (a + 1) (leastF (levR n row s i) (b + 1))) ∧ S4[a + 1]? = some (.lst (lvs (levR n row s i) (b + 1))) ∧ S4.length = S.length ∧ ∀ l, l ≠ a → l ≠ a + 1 → S4[l]? = S[l]? := by
  have h1 := lt_of_get ha
  have h2 := lt_of_get hb
  cases row with
  | some r =>
    refine ⟨_, take_some hn hn2 (hr r rfl) ha hb hbl, set_get _ (by simpa using h1), by rw [set_get_ne _ (by omega), set_get _ h2], by simp, fun l n1 n2 => by rw [set_get_ne _ (by omega), set_get_ne _ (by omega)]⟩
  | none =>
    have z : ∀ b, leastF (levR n none s i) b = 0 := least0
    rw [z] at ha ⊢
    refine ⟨_, take_none ha hb hbl fun j hj => ?_, by rw [set_get_ne _ (by omega)]; exact ha, set_get _ h2, by simp, fun l n1 n2 => by rw [set_get_ne _ (by omega)]⟩
    have := brk_none.mp (no j hj) j (Nat.le_refl _)
    unfold bad at this
    simp only [Nat.sub_self, sntO, W, decide_eq_false_iff_not] at this
    have := at1_01 s j i
    simp at *
    omega
theorem breach_of_ok {S : Store} {n : Int} {rows : List (Option Row)} {s : Strm} {l : Nat} {w : D} (hl : S[l]? = some (bk n (.tup (rows.map rD)))) (hn : 0 < n) (hn2 : n ≤ 20) (hr : okRows n rows) (hw : w = brD n rows s) (hs : okS rows.length s) :
    (m_breach_of [.ref l, sD s] S).wp (fun v S' => v = w ∧ (∀ l, l < S.length → S'[l]? = S[l]?) ∧ S.length ≤ S'.length) noE := by
  refine fn_wp rfl ?_
  have hlt := lt_of_get hl
  have hs1 := hs.1
  simp [b_breach_of, hl]
  refine lcGo_wp (I := fun zs ys S' => ∃ k, k ≤ rows.length ∧ zs = (rows.map rD).drop k ∧ ys = tD S.length k ∧ StP S.length n rows s k (fun _ => 0) S S') (fun x zs ys S' h => ?_) (fun ys S' h => ?_) ⟨0, Nat.zero_le _, rfl, rfl, ⟨fun _ _ => rfl, rfl, fun _ _ h => by omega⟩⟩
  · obtain ⟨k, hk, hz, rfl, st⟩ := h
    have hk' : k < rows.length := by
      refine Classical.byContradiction fun q => ?_
      rw [List.drop_eq_nil_of_le (by simp; omega)] at hz; cases hz
    rw [List.drop_eq_getElem_cons (by simpa using hk')] at hz
    simp at hz
    obtain ⟨rfl, hz⟩ := hz
    have hl2 : S'[l]? = some (bk n (.tup (rows.map rD))) := by rw [st.old l hlt, hl]
    refine ⟨trivial, _, by simp; rfl, ?_⟩
    have si := sent_init (S := S' ++ [.ins "Sent" []]) (n := n) (row := rows[k]) (l := S'.length) (by simp) s k
    simp [hl2]
    simp at si
    simp [si]
    exact ⟨k + 1, hk', hz, by rw [tD_succ, st.len], st.snoc (by simp [hk'])⟩
  · obtain ⟨k, hk, hz, rfl, st⟩ := h
    have hke : k = rows.length := by
      have : (rows.map rD).length - k = 0 := by rw [← List.length_drop, ← hz]; rfl
      simp at this; omega
    subst hke
    refine ⟨trivial, ?_⟩
    have sl : s.length ≤ 16777216 := by omega
    simp [sD, sl]
    refine for_wp (I := fun ys r S2 => ∃ (b : Nat) (z4 z5 z6 z7 z8 : Sl), b ≤ s.length ∧ ys = enumD b ((s.drop b).map lotD) ∧ brGo n rows s b (s.length - b) = w ∧ StP S.length n rows s rows.length (fun _ => b) S S2 ∧ (∀ b' < b, ∀ (j : Nat) (row : Option Row), rows[j]? = some row → brk n row s (j : Int) b' = none) ∧ r = [.val (.ref l), .val (.tup (s.map lotD)), .val (.lst (tD S.length rows.length)), .un, z4, z5, z6, z7, z8]) (fun y ys r S2 h => ?_) (fun r S2 h => ?_) ⟨0, .un, .un, .un, .un, .un, Nat.zero_le _, rfl, hw.symm, st, by simp, rfl⟩
    · obtain ⟨b, z4, z5, z6, z7, z8, hb, hz, hgo, st, hbr, rfl⟩ := h
      have hb' : b < s.length := by
        refine Classical.byContradiction fun q => ?_
        rw [List.drop_eq_nil_of_le (by omega)] at hz; cases hz
      rw [List.drop_eq_getElem_cons hb', List.map_cons, enumD] at hz
      simp only [List.cons.injEq] at hz
      obtain ⟨rfl, hz⟩ := hz
      have hgo' : brGo n rows s b (s.length - b) = match brLine n s b 0 rows with
        | some d => d
        | none => brGo n rows s (b + 1) (s.length - (b + 1)) := by
        rw [show s.length - b = (s.length - (b + 1)) + 1 by omega]; rfl
      have stop : ∀ d, brLine n s b 0 rows = some d → w = d := fun d e => by rw [e] at hgo'; rw [← hgo, hgo']
      have go : brLine n s b 0 rows = none → brGo n rows s (b + 1) (s.length - (b + 1)) = w := fun e => by rw [e] at hgo'; exact hgo'.symm.trans hgo
      have la : s[b] = lotA s b := by simp [lotA, hb']
      refine ⟨trivial, _, by simp; rfl, ?_⟩
      have rl : rows.length ≤ 16777216 := by have := hr.2.1; omega
      simp [tD, rl]
      refine for_wp (I := fun ys r S3 => ∃ (i : Nat) (z6 z7 z8 : Sl), i ≤ rows.length ∧ ys = enumD i (((List.range rows.length).drop i).map fun j => D.ref (S.length + 2 * j)) ∧ brLine n s b i (rows.drop i) = brLine n s b 0 rows ∧ StP S.length n rows s rows.length (fun j => if j < i then b + 1 else b) S S3 ∧ (∀ j < i, ∀ row : Option Row, rows[j]? = some row → brk n row s (j : Int) b = none) ∧
        r = [.val (.ref l), .val (.tup (s.map lotD)), .val (.lst ((List.range rows.length).map fun j => D.ref (S.length + 2 * j))), .un, .val (.int b), .val (lotD s[b]), z6, z7, z8]) (fun y ys' r S3 h => ?_) (fun r S3 h => ?_) ⟨0, _, _, _, Nat.zero_le _, rfl, rfl, by simpa using st, by simp, rfl⟩
      · obtain ⟨i, z6, z7, z8, hi, hz2, hbl, st, hbi, rfl⟩ := h
        have hi' : i < rows.length := by
          refine Classical.byContradiction fun q => ?_
          rw [List.drop_eq_nil_of_le (by simp; omega)] at hz2; cases hz2
        rw [List.drop_eq_getElem_cons (by simpa using hi'), List.map_cons, enumD] at hz2
        simp only [List.cons.injEq, List.getElem_range] at hz2
        obtain ⟨rfl, hz2⟩ := hz2
        obtain ⟨row, hrow⟩ : ∃ row, row = rows[i] := Exists.intro _ (Eq.refl _)
        have hget : rows[i]? = some row := by rw [hrow]; simp [hi']
        have hro : ∀ x, row = some x → okRow n x := fun x hx => hr.2.2 row (by rw [hrow]; exact List.getElem_mem hi') x hx
        obtain ⟨o1, o2⟩ := st.ob i row hi' hget
        simp only [Nat.lt_irrefl, if_false] at o1 o2
        obtain ⟨S4, t1, t2, t3, t4, t5⟩ := take_any hn (by omega) hro o1 o2 (by omega) fun b' hb2 => hbr b' hb2 i row hget
        have st2 := st.next hi' hget (by simpa using t2) (by simpa using t3) t4 t5
        have ce : (fun j => if j = i then (if i < i then b + 1 else b) + 1 else if j < i then b + 1 else b) = fun j => if j < i + 1 then b + 1 else b := by
          funext j
          by_cases e : j = i
          · subst e; simp
          · by_cases e2 : j < i
            · have : j < i + 1 := by omega
              simp [e, e2, this]
            · have : ¬ j < i + 1 := by omega
              simp [e, e2, this]
        rw [ce] at st2
        have bl : brLine n s b i (rows.drop i) = match brk n row s i b with
          | some k => some (.tup [.int i, .int ((b - k : Nat) : Int), .int b])
          | none => brLine n s b (i + 1) (rows.drop (i + 1)) := by
          rw [List.drop_eq_getElem_cons hi', ← hrow]; rfl
        have ei : eIn false (eVar 6) (lE (eVar 5)) [.val (.ref l), .val (.tup (s.map lotD)), .val (.lst ((List.range rows.length).map fun j => D.ref (S.length + 2 * j))), .un, .val (.int b), .val (lotD s[b]), .val (.int i), .val (.ref (S.length + 2 * i)), z8] S3 = .ok (.bl (decide ((i : Int) ∈ lotA s b))) S3 := in_lot (sc := .cst true ((lotA s b).map D.int)) (by simp) (by simp [lotD, la]) (by simp)
        refine ⟨trivial, _, by simp; rfl, ?_⟩
        simp [o1, ei, t1]
        unfold brV
        cases qk : brk n row s i b with
        | none =>
          rw [qk] at bl
          simp
          refine ⟨i + 1, hi', by rw [hz2, List.map_drop], bl.symm.trans hbl, st2, fun j hj row' hr' => ?_⟩
          by_cases e : j = i
          · subst e; rw [hget] at hr'; cases hr'; exact qk
          · exact hbi j (by omega) row' hr'
        | some k =>
          rw [qk] at bl
          have := stop _ (hbl.symm.trans bl)
          simp [this]
          exact ⟨st2.old, by have := st2.len; omega⟩
      · obtain ⟨i, z6, z7, z8, hi, hz2, hbl, st, hbi, rfl⟩ := h
        have hie : rows.length ≤ i := by
          have : ((List.range rows.length).drop i).length = 0 := by
            cases q : (List.range rows.length).drop i with
            | nil => rfl
            | cons x xs => rw [q] at hz2; cases hz2
          simp at this; omega
        rw [List.drop_eq_nil_of_le hie] at hbl
        have ce : StP S.length n rows s rows.length (fun _ => b + 1) S S3 := ⟨st.old, st.len, fun j row hj hr' => by
          have := st.ob j row hj hr'
          simp only [show j < i by omega, if_true] at this
          exact this⟩
        refine ⟨trivial, b + 1, _, _, _, _, _, hb', hz, go hbl.symm, ce, fun b' hb2 j row hr' => ?_, rfl⟩
        by_cases e : b' = b
        · subst e
          have : j < rows.length := by
            refine Classical.byContradiction fun q => ?_
            rw [List.getElem?_eq_none (by omega)] at hr'; cases hr'
          exact hbi j (by omega) row hr'
        · exact hbr b' (by omega) j row hr'
    · obtain ⟨b, z4, z5, z6, z7, z8, hb, hz, hgo, st, hbr, rfl⟩ := h
      have e : s.length - b = 0 := by
        have : (s.drop b).length = 0 := by
          cases q : s.drop b with
          | nil => rfl
          | cons x xs => rw [q] at hz; cases hz
        simpa using this
      rw [e] at hgo
      refine ⟨trivial, ?_⟩
      simp
      exact ⟨hgo, st.old, by have := st.len; omega⟩
theorem breach_ok {S : Store} {n : Int} {rows : List (Option Row)} {s : Strm} {l : Nat} {w : D} (hl : S[l]? = some (bk n (.tup (rows.map rD)))) (hn : 0 < n) (hn2 : n ≤ 20) (hr : okRows n rows) (hw : w = brD n rows s) (hs : okS rows.length s) :
    (m_breach [.ref l, sD s] S).wp (fun v S' => v = w ∧ (∀ l, l < S.length → S'[l]? = S[l]?) ∧ S.length ≤ S'.length) noE := by
  refine fn_wp rfl ?_
  simp [b_breach, stream_ok hl hs]
  refine (breach_of_ok hl hn hn2 hr hw hs).mono fun v S' h => ?_
  simpa using h
end L54

end
section
set_option Elab.async false
set_option linter.all false
set_option maxRecDepth 100000
set_option maxHeartbeats 4000000
/-! rows drawn, deep things -/
namespace L54
open PySem Dn Pg
def okO (n : Int) (r : Option Row) : Prop := ∀ x, r = some x → okRow n x
theorem pick_wp {S : Store} {h : Nat} {xs : List D} {Q : D → Store → Prop} (hS : HandOk S h) (h1 : 1 ≤ xs.length) (h2 : xs.length ≤ 1000) (k : ∀ x S', Dr h S S' → x ∈ xs → Q x S') : (m__law_pick [.ref h, .lst xs] S).wp Q noE := by
  refine fn_wp rfl ?_
  simp [b__law_pick]
  refine draw_wp hS (by omega) (by omega) fun v S1 d1 v0 v1 => ?_
  obtain ⟨y, hy, e⟩ := atD_mem v0 v1
  simp [e]
  exact k y S1 d1 hy
theorem rows_wp {S : Store} {n : Int} (hS : HandOk S 0) (hn : 0 < n) (hn2 : n ≤ 12) : (m__law_rows [.ref 0, .int 5, .int n, .int 6, .int 4] S).wp (fun d S' => Kp S S' ∧ ∃ rows, d = .tup (rows.map rD) ∧ okRows n rows ∧ rows.length ≤ 5) noE := by
  refine fn_wp rfl ?_
  simp [b__law_rows]
  refine range1_wp ?_
  simp
  refine draw_wp hS (by decide) (by decide) fun c S1 d1 c0 c1 => ?_
  try simp
  refine ⟨by omega, by omega, ?_⟩
  refine for_wp (I := fun zs r S' => ∃ (rows : List (Option Row)) (left : Int) (z7 z8 : Sl), rows.length + zs.length = (1 + c).toNat ∧ (∀ r ∈ rows, okO n r) ∧ 0 ≤ left ∧ left ≤ n ∧ r = [.val (.ref 0), .val (.int 5), .val (.int n), .val (.int 6), .val (.int 4), .own (rows.map rD), .val (.int left), z7, z8] ∧ noLam r = true ∧ Kp S S') (fun y zs r S' hI => ?_) (fun r S' hI => ?_) ⟨[], n, .un, .un, by simp, by simp, by omega, Int.le_refl _, rfl, rfl, d1.kp⟩
  · obtain ⟨rows, left, z7, z8, hl, ho, l0, l1, rfl, nl, kp⟩ := hI
    simp only [List.length_cons] at hl
    refine ⟨trivial, _, by simp; rfl, ?_⟩
    simp
    refine draw_wp kp.hand (by decide) (by decide) fun v S2 d2 v0 v1 => ?_
    have k2 := kp.trans d2.kp
    have lm : rows.length + 1 ≤ 16777216 := by omega
    by_cases q : v = 0
    · simp [q, nl]
      refine ⟨by omega, rows ++ [none], by simp; omega, fun r hr => ?_, left, l0, l1, ⟨by simp [rD], rfl⟩, (by simp [noLam] at nl ⊢; simp [nl]), k2⟩
      rcases List.mem_append.mp hr with h | h
      · exact ho r h
      · rw [List.mem_singleton.mp h]
        exact fun x e => by cases e
    · simp [q, nl]
      refine draw_wp k2.hand (by decide) (by decide) fun a S3 d3 a0 a1 => ?_
      have k3 := k2.trans d3.kp
      by_cases p : 0 < a <;> simp [p]
      all_goals
        refine draw_wp k3.hand (by omega) (by omega) fun top S4 d4 t0 t1 => ?_
        have k4 := k3.trans d4.kp
        simp [max_if]
        refine draw_wp k4.hand (by decide) (by decide) fun b S5 d5 b0 b1 => ?_
        have k5 := k4.trans d5.kp
        simp
        refine draw_wp k5.hand (by decide) (by decide) fun g S6 d6 g0 g1 => ?_
        have k6 := k5.trans d6.kp
        simp
        refine ⟨by omega, rows ++ [some (1 + b, top, g)], by simp; omega, fun r hr => ?_, max 0 (left - top), by omega, by omega, ⟨by simp [rD, rT], by split <;> omega⟩, (by first | (simp [noLam] at nl ⊢; done) | (simp [noLam] at nl ⊢; simp [nl])), k6⟩
        rcases List.mem_append.mp hr with h | h
        · exact ho r h
        · rw [List.mem_singleton.mp h]
          exact fun x e => by cases e; exact ⟨by show 1 ≤ 1 + b; omega, by show 1 + b ≤ 20; omega, t0, by show top ≤ n; omega, g0, by show g ≤ 7; omega⟩
  · obtain ⟨rows, left, z7, z8, hl, ho, l0, l1, rfl, nl, kp⟩ := hI
    simp at hl
    simp [Src.get]
    refine ⟨kp, rows, rfl, ⟨by omega, by omega, ho⟩, by omega⟩
theorem deep_ok {S : Store} (hS : HandOk S 0) : (m__law_deep [.ref 0] S).wp (fun d S' => Kp S S' ∧ Pd 2 d) noE := by
  refine fn_wp rfl ?_
  simp [b__law_deep]
  refine draw_wp hS (by decide) (by decide) fun v S1 d1 v0 v1 => ?_
  obtain ⟨y, hy, ey⟩ := atD_mem (xs := [D.non, .tup [], .int 0, .str "a"]) v0 (by simpa using v1)
  simp [ey]
  refine range1_wp ?_
  simp
  refine draw_wp d1.1 (by decide) (by decide) fun w S2 d2 w0 w1 => ?_
  simp
  refine ⟨by omega, by omega, ?_⟩
  refine for_wp (I := fun zs r S' => ∃ z1 d, r = [.val (.ref 0), .val d, z1] ∧ Pd 2 d ∧ Kp S S') (fun x zs r S' h => ?_) (fun r S' h => ?_) ⟨.un, y, rfl, ?_, d1.kp.trans d2.kp⟩
  · obtain ⟨z1, d, rfl, hd, hK⟩ := h
    simp
    refine draw_wp hK.hand (by decide) (by decide) fun v S1 d1 v0 v1 => ?_
    obtain ⟨y, hy, ey⟩ := atD_mem (xs := [D.tup [d], .lst [d]]) v0 (by simpa using v1)
    simp [ey]
    refine ⟨_, y, ⟨rfl, rfl⟩, ?_, hK.trans d1.kp⟩
    simp at hy
    rcases hy with rfl | rfl
    · exact Pd.of_tup (by simp) (by simpa using hd)
    · exact Pd.of_lst (by simp) (by simpa using hd)
  · obtain ⟨z1, d, rfl, hd, hK⟩ := h
    simp [hK]
    exact hd
  · simp at hy
    intro S; rcases hy with rfl | rfl | rfl | rfl <;> rfl
end L54

end
section
set_option Elab.async false
set_option linter.all false
set_option maxRecDepth 100000
set_option maxHeartbeats 4000000
/-! streams drawn and thinned -/
namespace L54
open PySem Dn Pg
theorem stream_wp {S : Store} {m k : Nat} {i j : Int} (hS : HandOk S 0) (hi : i = m) (hj : j = k) (hm : m ≤ 12) (hk : k ≤ 1000) : (m__law_stream [.ref 0, .int i, .int j] S).wp (fun d S' => Kp S S' ∧ ∃ s : Strm, d = sD s ∧ s.length = k ∧ okS m s) noE := by
  refine fn_wp rfl ?_
  simp [b__law_stream]
  refine pick_wp hS (by simp) (by simp) fun sh S1 d1 hsh => ?_
  obtain ⟨sh, rfl, s1, s2⟩ : ∃ x : Int, sh = .int x ∧ 1 ≤ x ∧ x ≤ 5 := by
    simp at hsh
    rcases hsh with rfl | rfl | rfl | rfl <;> exact ⟨_, rfl, by decide, by decide⟩
  simp
  refine range1_wp ?_
  simp
  refine ⟨by omega, by omega, ?_⟩
  refine for_wp (I := fun zs r S' => ∃ (s : Strm) (z5 : Sl), s.length + zs.length = k ∧ (∀ l ∈ s, l.length ≤ 100 ∧ l.Pairwise (· < ·) ∧ ∀ i ∈ l, 0 ≤ i ∧ i < m) ∧ Kp S S' ∧ r = [.val (.ref 0), .val (.int i), .val (.int j), .val (.int sh), .own (s.map lotD), z5, .un]) (fun z zs r S' h => ?_) (fun r S' h => ?_) ⟨[], .un, by simp [hj], by simp, d1.kp, rfl⟩
  · obtain ⟨s, z5, hl, hs, hK, rfl⟩ := h
    simp at hl
    refine ⟨trivial, _, by simp; rfl, ?_⟩
    simp
    refine range1_wp ?_
    simp
    refine ⟨by omega, by omega, ?_⟩
    refine lcGo_wp (I := fun zs ys S'' => ∃ (c : Nat) (us : List Int), c ≤ m ∧ zs = ((List.range i.toNat).map fun (k : Nat) => D.int k).drop c ∧ ys = us.map D.int ∧ us.length ≤ c ∧ us.Pairwise (· < ·) ∧ (∀ i ∈ us, 0 ≤ i ∧ i < c) ∧ Kp S S'') (fun y zs ys S'' h => ?_) (fun ys S'' h => ?_) ⟨0, [], Nat.zero_le _, rfl, rfl, by simp, by simp, by simp, hK⟩
    · obtain ⟨c, us, hc, hz, rfl, hul, hup, hui, hK⟩ := h
      have hc' : c < m := by
        refine Classical.byContradiction fun q => ?_
        rw [List.drop_eq_nil_of_le (by simp; omega)] at hz; cases hz
      have hci : c < i.toNat := by omega
      rw [List.drop_eq_getElem_cons (by simpa using hci)] at hz
      simp at hz
      obtain ⟨rfl, hz⟩ := hz
      refine ⟨trivial, _, by simp; rfl, ?_⟩
      simp
      refine draw_wp hK.hand (by omega) (by omega) fun v S2 d2 v0 v1 => ?_
      simp
      have hK2 := hK.trans d2.kp
      by_cases q : v = 0
      · simp [q]
        refine ⟨c + 1, hc', hz, us ++ [(c : Int)], by simp, by simp; omega, ?_, fun x hx => ?_, hK2⟩
        · rw [List.pairwise_append]
          exact ⟨hup, by simp, fun a ha b hb => by simp at hb; subst hb; exact (hui a ha).2⟩
        · rcases List.mem_append.mp hx with h | h
          · have := hui x h; omega
          · simp at h; subst h; omega
      · simp [q]
        exact ⟨c + 1, hc', hz, us, rfl, by omega, hup, fun x hx => by have := hui x hx; omega, hK2⟩
    · obtain ⟨c, us, hc, hz, rfl, hul, hup, hui, hK⟩ := h
      refine ⟨trivial, ?_⟩
      have l1 : s.length < 16777216 := by omega
      simp [l1]
      refine ⟨s ++ [us], by simp; omega, fun l hl => ?_, hK, by simp [lotD]⟩
      rcases List.mem_append.mp hl with h | h
      · exact hs l h
      · simp at h; subst h
        exact ⟨by omega, hup, fun i hi => by have := hui i hi; omega⟩
  · obtain ⟨s, z5, hl, hs, hK, rfl⟩ := h
    refine ⟨trivial, ?_⟩
    simp at hl
    simp [Src.get]
    exact ⟨hK, s, rfl, hl, by omega, hs⟩
def cD (m : Nat) (g : Nat → List Nat) : List D := (List.range m).map fun i => D.lst ((g i).map fun (j : Nat) => D.int j)
theorem cD_at {m : Nat} {g : Nat → List Nat} {i : Nat} (h : i < m) : atD (cD m g) (i : Int) = some (.lst ((g i).map fun (j : Nat) => D.int j)) := atD_nat (by simp [cD, h])
theorem cD_set {m : Nat} {g : Nat → List Nat} {i : Nat} {v : List Nat} : (cD m g).set i (.lst (v.map fun (j : Nat) => D.int j)) = cD m fun k => if k = i then v else g k := by
  unfold cD
  refine List.ext_getElem? fun k => ?_
  rw [List.getElem?_set]
  by_cases e : i = k
  · subst e
    by_cases h : i < m <;> simp [h]
  · have : ¬ k = i := fun z => e z.symm
    by_cases h : k < m <;> simp [h, e, this]
theorem lotA_app {F : Strm} {us : List Int} {j : Nat} (h : j < F.length) : lotA (F ++ [us]) j = lotA F j := by
  simp [lotA, List.getElem?_append_left h]
theorem lotA_last {F : Strm} {us : List Int} : lotA (F ++ [us]) F.length = us := by simp [lotA]
def isS (m : Nat) (F : Strm) : Prop := ∀ l ∈ F, l.length ≤ 100 ∧ l.Pairwise (· < ·) ∧ ∀ i ∈ l, 0 ≤ i ∧ i < m
theorem chk_le {n : Int} {row : Option Row} {c : List Nat} {b : Nat} (h : Chk n row c b) : ∀ k, (hk : k < c.length) → ((c.length : Int) - k ≤ sntO n row ((b : Int) - (c[k] : Nat) + 1)) := fun k hk => by
  have := h k hk
  omega
/-- the look at one more send -/
theorem look_wp {S : Store} {n : Int} {rows : List (Option Row)} {x : Nat} {row : Option Row} {c : List Nat} {b : Nat} {s2 s3 s5 s6 s7 s8 z12 z13 : Sl} (hn : 0 < n) (hn2 : n ≤ 20) (hr : ∀ r, row = some r → okRow n r) (hx : rows[x]? = some row) (hc : ∀ j ∈ c, j ≤ b) (hb : b ≤ 1000) (hl : c.length ≤ 2000) {Q : Rho → Store → Prop} {E : Es}
    (k : ∀ z12 z13, Q [.val (.tup (rows.map rD)), .val (.int n), s2, s3, s5, s6, .val (.int b), s7, s8, .val (.int x), .val (.lst (c.map fun (j : Nat) => D.int j)), .val (.bl (decide (∀ k, (hk : k < c.length) → ((c.length : Int) - k ≤ sntO n row ((b : Int) - (c[k] : Nat) + 1))))), z12, z13] S) :
    (sFor (iEnumAD (eVar 10)) (gTupD 2 (gsCons (gNameD 12) (gsCons (gNameD 13) (gsNil)))) (sSet 11 (eAnd (eVar 11) (eCmp (fun _ => cmpI iLe) (eOp (fun _ => opSub) (eLen (lE (eVar 10))) (eVar 12)) (eCall m__law_sent (aCons (eIx (lE (eVar 0)) (eVar 9)) (aCons (eVar 1) (aCons (eOp opAdd (eOp (fun _ => opSub) (eVar 6) (eVar 13)) (eC (.int 1))) (aNil))))))))
      [.val (.tup (rows.map rD)), .val (.int n), s2, s3, s5, s6, .val (.int b), s7, s8, .val (.int x), .val (.lst (c.map fun (j : Nat) => D.int j)), .val (.bl true), z12, z13] S).wp ⟨Q, E.rt, E.bk, E.ct, E.ex⟩ := by
  have hl2 : c.length ≤ 16777216 := by omega
  have hxl : x < rows.length := by
    refine Classical.byContradiction fun q => ?_
    rw [List.getElem?_eq_none (by omega)] at hx; cases hx
  have ra : atD (rows.map rD) (x : Int) = some (rD row) := atD_nat (by rw [List.getElem?_map, hx]; rfl)
  simp [hl2]
  refine for_wp (I := fun ys r S' => ∃ (k : Nat) (z12 z13 : Sl), k ≤ c.length ∧ ys = enumD k ((c.drop k).map fun (j : Nat) => D.int j) ∧ S' = S ∧ r = [.val (.tup (rows.map rD)), .val (.int n), s2, s3, s5, s6, .val (.int b), s7, s8, .val (.int x), .val (.lst (c.map fun (j : Nat) => D.int j)), .val (.bl (decide (∀ j, (hj : j < c.length) → j < k → ((c.length : Int) - j ≤ sntO n row ((b : Int) - (c[j] : Nat) + 1))))), z12, z13]) (fun y ys r S' h => ?_) (fun r S' h => ?_) ⟨0, _, _, Nat.zero_le _, rfl, rfl, by simp; exact ⟨rfl, rfl⟩⟩
  · obtain ⟨k', z12, z13, hk, hz, rfl, rfl⟩ := h
    have hk' : k' < c.length := by
      refine Classical.byContradiction fun q => ?_
      rw [List.drop_eq_nil_of_le (by omega)] at hz; cases hz
    rw [List.drop_eq_getElem_cons hk', List.map_cons, enumD] at hz
    simp only [List.cons.injEq] at hz
    obtain ⟨rfl, hz⟩ := hz
    have hcb := hc _ (List.getElem_mem hk')
    have es := sentO2 (b := (b : Int) - (c[k'] : Nat) + 1) S' hn (by omega) hr (by omega) (by omega)
    refine ⟨trivial, _, by simp; rfl, ?_⟩
    by_cases q : ∀ j, (hj : j < c.length) → j < k' → ((c.length : Int) - j ≤ sntO n row ((b : Int) - (c[j] : Nat) + 1))
    · simp only [q, implies_true, decide_true]
      simp [opSub, ra, es]
      refine ⟨k' + 1, by omega, by rw [hz, List.map_drop], ?_⟩
      have : (∀ j, (hj : j < c.length) → j < k' + 1 → ((c.length : Int) - j ≤ sntO n row ((b : Int) - (c[j] : Nat) + 1))) ↔ ((c.length : Int) - k' ≤ sntO n row ((b : Int) - (c[k'] : Nat) + 1)) := by
        constructor
        · intro h; exact h k' hk' (by omega)
        · intro h j hj hjk
          by_cases e : j = k'
          · subst e; exact h
          · exact q j hj (by omega)
      rw [decide_eq_true q, Bool.true_and]
      exact decide_eq_decide.mpr this.symm
    · have q2 : ¬ ∀ j, (hj : j < c.length) → j < k' + 1 → ((c.length : Int) - j ≤ sntO n row ((b : Int) - (c[j] : Nat) + 1)) := fun z => q fun j hj hk => z j hj (by omega)
      simp only [q, decide_false]
      simp
      refine ⟨k' + 1, by omega, by rw [hz, List.map_drop], ?_⟩
      simpa using q2
  · obtain ⟨k', z12, z13, hk, hz, rfl, rfl⟩ := h
    have hke : c.length ≤ k' := by
      have : (c.drop k').length = 0 := by
        cases q : c.drop k' with
        | nil => rfl
        | cons x xs => rw [q] at hz; cases hz
      simp at this; omega
    refine ⟨trivial, ?_⟩
    have := k z12 z13
    have e : (∀ j, (hj : j < c.length) → j < k' → ((c.length : Int) - j ≤ sntO n row ((b : Int) - (c[j] : Nat) + 1))) ↔ (∀ k, (hk : k < c.length) → ((c.length : Int) - k ≤ sntO n row ((b : Int) - (c[k] : Nat) + 1))) := ⟨fun h j hj => h j hj (by omega), fun h j hj _ => h j hj⟩
    rw [decide_eq_decide.mpr e]
    exact this
end L54

end
section
set_option Elab.async false
set_option linter.all false
set_option maxRecDepth 100000
set_option maxHeartbeats 4000000
/-! the thinned stream -/
namespace L54
open PySem Dn Pg
def thO (n : Int) (rows : List (Option Row)) (F : Strm) : Prop := ∀ b < F.length, ∀ (i : Nat) (row : Option Row), rows[i]? = some row → OkB n row F i b
theorem cm_app {F : Strm} {us : List Int} {i : Int} : cm (F ++ [us]) i (F.length + 1) = cm F i F.length ++ (if i ∈ us then [F.length] else []) := by
  rw [cm_succ, lotA_last, cm_congr fun j hj => lotA_app hj]
theorem thO_app {n : Int} {rows : List (Option Row)} {F : Strm} {us : List Int} (hn : 0 < n) (hr : okRows n rows) (h : thO n rows F) (hu : ∀ (i : Nat) (row : Option Row), rows[i]? = some row → (i : Int) ∈ us → Chk n row (cm F i F.length ++ [F.length]) F.length) : thO n rows (F ++ [us]) := by
  intro b hb i row hi
  have hro : ∀ x, row = some x → okRow n x := fun x hx => hr.2.2 row (List.mem_of_getElem? hi) x hx
  by_cases e : b < F.length
  · exact okb_congr (s := F) (fun j hj => (lotA_app (by omega)).symm) (h b e i row hi)
  · have e : b = F.length := by simp at hb; omega
    subst e
    by_cases q : (i : Int) ∈ us
    · refine okb_chk hn hro ?_
      rw [cm_app, if_pos q]
      exact hu i row hi q
    · have a : at1 (F ++ [us]) F.length i = 0 := by unfold at1; rw [lotA_last, if_neg q]
      cases hF : F.length with
      | zero =>
        rw [hF] at a
        exact okb_rest0 hn hro a
      | succ m =>
        rw [hF] at a
        refine okb_rest hn hro a ?_
        exact okb_congr (s := F) (fun j hj => (lotA_app (by omega)).symm) (h m (by omega) i row hi)
theorem thin_wp {S : Store} {n : Int} {rows : List (Option Row)} {s : Strm} (hn : 0 < n) (hn2 : n ≤ 20) (hr : okRows n rows) (hs : okS rows.length s) :
    (m__law_thinned [.tup (rows.map rD), .int n, sD s] S).wp (fun d S' => S' = S ∧ ∃ F : Strm, d = sD F ∧ F.length = s.length ∧ okS rows.length F ∧ brD n rows F = .non) noE := by
  refine fn_wp rfl ?_
  obtain ⟨hs1, hs2⟩ := hs
  simp [b__law_thinned]
  refine wp_of (lc_mapA (enc := rD) (f := fun _ => D.lst []) trivial fun x hx => ⟨_, by simp; rfl, by simp⟩) ?_
  have c0 : rows.map (fun _ => D.lst []) = cD rows.length fun _ => [] := by
    unfold cD
    refine List.ext_getElem (by simp) fun i h1 h2 => by simp
  rw [c0]
  have sl : s.length ≤ 16777216 := by omega
  simp [sD, sl]
  refine for_wp (I := fun ys r S2 => ∃ (F : Strm) (z6 z7 z8 z9 z10 z11 z12 z13 : Sl), F.length ≤ s.length ∧ ys = enumD F.length ((s.drop F.length).map lotD) ∧ isS rows.length F ∧ thO n rows F ∧ S2 = S ∧ r = [.val (.tup (rows.map rD)), .val (.int n), .val (sD s), .own (cD rows.length fun i => cm F i F.length), .un, .own (F.map lotD), z6, z7, z8, z9, z10, z11, z12, z13]) (fun y ys r S2 h => ?_) (fun r S2 h => ?_) ⟨[], .un, .un, .un, .un, .un, .un, .un, .un, Nat.zero_le _, rfl, by simp [isS], by intro b hb; simp at hb, rfl, rfl⟩
  · obtain ⟨F, z6, z7, z8, z9, z10, z11, z12, z13, hF, hz, hiF, hth, rfl, rfl⟩ := h
    have hb' : F.length < s.length := by
      refine Classical.byContradiction fun q => ?_
      rw [List.drop_eq_nil_of_le (by omega)] at hz; cases hz
    rw [List.drop_eq_getElem_cons hb', List.map_cons, enumD] at hz
    simp only [List.cons.injEq] at hz
    obtain ⟨rfl, hz⟩ := hz
    obtain ⟨lot, hlot⟩ : ∃ lot, lot = s[F.length] := Exists.intro _ (Eq.refl _)
    obtain ⟨ll, lp, lb⟩ := hs2 lot (by rw [hlot]; exact List.getElem_mem hb')
    refine ⟨trivial, _, by simp; rfl, ?_⟩
    rw [← hlot]
    refine seq_cut (fun r1 S1 => S1 = S2 ∧ r1 = [.val (.tup (rows.map rD)), .val (.int n), .val (sD s), .own (cD rows.length fun i => cm F i F.length), .un, .own (F.map lotD), .val (.int F.length), .val (lotD lot), .own [], z9, z10, z11, z12, z13]) (by simp) ?_
    rintro _ S1 ⟨rfl, rfl⟩
    refine seq_cut (fun r1 S2 => S2 = S1 ∧ ∃ (us : List Int) (z9 z10 z11 z12 z13 : Sl), List.Pairwise (· < ·) us ∧ us.length ≤ 100 ∧ (∀ i ∈ us, 0 ≤ i ∧ i < rows.length) ∧ (∀ (i : Nat) (row : Option Row), rows[i]? = some row → (i : Int) ∈ us → Chk n row (cm F i F.length ++ [F.length]) F.length) ∧ r1 = [.val (.tup (rows.map rD)), .val (.int n), .val (sD s), .own (cD rows.length fun i => cm F i F.length ++ (if (i : Int) ∈ us then [F.length] else [])), .un, .own (F.map lotD), .val (.int F.length), .val (lotD lot), .own (us.map D.int), z9, z10, z11, z12, z13]) ?_ ?_
    · simp [lotD]
      refine for_wp (I := fun ys r S3 => ∃ (us vs : List Int) (z9 z10 z11 z12 z13 : Sl), ys = vs.map D.int ∧ List.Pairwise (· < ·) vs ∧ us.length + vs.length ≤ 100 ∧ (∀ i ∈ vs, 0 ≤ i ∧ i < rows.length) ∧ List.Pairwise (· < ·) us ∧ (∀ i ∈ us, 0 ≤ i ∧ i < rows.length ∧ ∀ j ∈ vs, i < j) ∧ S3 = S1 ∧ (∀ (i : Nat) (row : Option Row), rows[i]? = some row → (i : Int) ∈ us → Chk n row (cm F i F.length ++ [F.length]) F.length) ∧ r = [.val (.tup (rows.map rD)), .val (.int n), .val (sD s), .own (cD rows.length fun i => cm F i F.length ++ (if (i : Int) ∈ us then [F.length] else [])), .un, .own (F.map lotD), .val (.int F.length), .val (lotD lot), .own (us.map D.int), z9, z10, z11, z12, z13]) (fun y ys' r S3 h => ?_) (fun r S3 h => ?_) ⟨[], lot, z9, z10, z11, z12, z13, rfl, lp, by simpa using ll, lb, by simp, by simp, rfl, by simp, by simp [lotD]⟩
      · obtain ⟨us, vs, z9, z10, z11, z12, z13, e, hvp, hul, hvb, hup, hub, rfl, hchk, rfl⟩ := h
        cases vs with
        | nil => cases e
        | cons v vs =>
          cases e
          obtain ⟨v0, v1⟩ := hvb v (List.mem_cons_self ..)
          obtain ⟨x, rfl⟩ := Int.eq_ofNat_of_zero_le v0
          have hx : x < rows.length := by omega
          rw [List.pairwise_cons] at hvp
          simp only [List.length_cons] at hul
          have nin : ¬ (x : Int) ∈ us := fun z => by have := (hub _ z).2.2 (x : Int) (List.mem_cons_self ..); omega
          obtain ⟨row, hrow⟩ : ∃ row, row = rows[x] := Exists.intro _ (Eq.refl _)
          have hget : rows[x]? = some row := by rw [hrow]; simp [hx]
          have hro : ∀ y, row = some y → okRow n y := fun y hy => hr.2.2 row (List.mem_of_getElem? hget) y hy
          have hvb' : ∀ i ∈ vs, 0 ≤ i ∧ i < (rows.length : Int) := fun i hi => hvb i (List.mem_cons_of_mem _ hi)
          have ca := cD_at (g := fun i => cm F i F.length ++ (if (i : Int) ∈ us then [F.length] else [])) hx
          simp only [nin, if_false, List.append_nil] at ca
          obtain ⟨c, hc⟩ : ∃ c, c = cm F x F.length ++ [F.length] := Exists.intro _ (Eq.refl _)
          have clen : c.length ≤ F.length + 1 := by
            rw [hc]
            have : (cm F x F.length).length ≤ (List.range F.length).length := List.length_filter_le _ _
            simp at this
            simp; omega
          have cle : ∀ j ∈ c, j ≤ F.length := fun j hj => by
            rw [hc] at hj
            rcases List.mem_append.mp hj with h | h
            · have := (cm_lt j h).1; omega
            · simp at h; omega
          refine ⟨trivial, _, by simp; rfl, ?_⟩
          refine seq_cut (fun r1 S4 => S4 = S3 ∧ r1 = [.val (.tup (rows.map rD)), .val (.int n), .val (sD s), .own (cD rows.length fun i => cm F i F.length ++ (if (i : Int) ∈ us then [F.length] else [])), .un, .own (F.map lotD), .val (.int F.length), .val (lotD lot), .own (us.map D.int), .val (.int x), .val (.lst (c.map fun (j : Nat) => D.int j)), z11, z12, z13]) ?_ ?_
          · have cl : (cm F x F.length).length + 1 ≤ 16777216 := by
              have : c.length = (cm F x F.length).length + 1 := by rw [hc]; simp
              omega
            simp [Src.get, ca, hc, cl]
          rintro _ S4 ⟨rfl, rfl⟩
          refine seq_cut (fun r1 S5 => S5 = S4 ∧ r1 = [.val (.tup (rows.map rD)), .val (.int n), .val (sD s), .own (cD rows.length fun i => cm F i F.length ++ (if (i : Int) ∈ us then [F.length] else [])), .un, .own (F.map lotD), .val (.int F.length), .val (lotD lot), .own (us.map D.int), .val (.int x), .val (.lst (c.map fun (j : Nat) => D.int j)), .val (.bl true), z12, z13]) (by simp) ?_
          rintro _ S5 ⟨rfl, rfl⟩
          refine seq_cut (fun r1 S6 => S6 = S5 ∧ ∃ z12 z13, r1 = [.val (.tup (rows.map rD)), .val (.int n), .val (sD s), .own (cD rows.length fun i => cm F i F.length ++ (if (i : Int) ∈ us then [F.length] else [])), .un, .own (F.map lotD), .val (.int F.length), .val (lotD lot), .own (us.map D.int), .val (.int x), .val (.lst (c.map fun (j : Nat) => D.int j)), .val (.bl (decide (∀ k, (hk : k < c.length) → ((c.length : Int) - k ≤ sntO n row ((F.length : Int) - (c[k] : Nat) + 1))))), z12, z13]) (look_wp hn hn2 hro hget cle (by omega) (by omega) fun z12 z13 => ⟨rfl, z12, z13, rfl⟩) ?_
          rintro _ S6 ⟨rfl, z12, z13, rfl⟩
          have cdl : ∀ g, (cD rows.length g).length = rows.length := fun g => by simp [cD]
          have pl : place rows.length (x : Int) = some x := by
            unfold place
            rw [if_pos (by omega), if_pos (by omega)]; rfl
          have ul : us.length < 16777216 := by omega
          by_cases q : ∀ k, (hk : k < c.length) → ((c.length : Int) - k ≤ sntO n row ((F.length : Int) - (c[k] : Nat) + 1))
          · rw [decide_eq_true q]
            have ck : Chk n row c F.length := fun k hk => by have := q k hk; omega
            have ge : (fun k => if k = x then c else cm F k F.length ++ (if (k : Int) ∈ us then [F.length] else [])) = fun (i : Nat) => cm F i F.length ++ (if (i : Int) ∈ us ++ [(x : Int)] then [F.length] else []) := by
              funext k
              by_cases e : k = x
              · subst e; simp [hc]
              · have : ¬ (k : Int) = x := by omega
                simp [e, this]
            simp [Src.get, cdl, pl, cD_set, ul]
            refine ⟨us ++ [(x : Int)], vs, rfl, hvp.2, by simp; omega, hvb', ?_, ?_, ?_, ?_⟩
            · rw [List.pairwise_append]
              exact ⟨hup, by simp, fun a ha b hb => by simp at hb; subst hb; exact (hub a ha).2.2 _ (List.mem_cons_self ..)⟩
            · intro i hi
              rcases List.mem_append.mp hi with h | h
              · exact ⟨(hub i h).1, (hub i h).2.1, fun j hj => (hub i h).2.2 j (List.mem_cons_of_mem _ hj)⟩
              · simp at h; subst h
                exact ⟨by omega, by omega, fun j hj => hvp.1 j hj⟩
            · intro i row' hr' hi
              rcases List.mem_append.mp hi with h | h
              · exact hchk i row' hr' h
              · have : i = x := by simp at h; omega
                subst this
                rw [hget] at hr'; cases hr'
                rw [← hc]; exact ck
            · rw [ge]
              simp
          · rw [decide_eq_false q]
            simp
            exact ⟨us, vs, rfl, hvp.2, by omega, hvb', hup, fun i hi => ⟨(hub i hi).1, (hub i hi).2.1, fun j hj => (hub i hi).2.2 j (List.mem_cons_of_mem _ hj)⟩, hchk, rfl, rfl⟩
      · obtain ⟨us, vs, z9, z10, z11, z12, z13, e, hvp, hul, hvb, hup, hub, rfl, hchk, rfl⟩ := h
        refine ⟨trivial, ?_⟩
        simp
        exact ⟨us, hup, by omega, fun i hi => ⟨(hub i hi).1, (hub i hi).2.1⟩, hchk, rfl, rfl, rfl⟩
    · rintro _ S4 ⟨rfl, us, z9, z10, z11, z12, z13, hup, hul, hub, hchk, rfl⟩
      have fl : F.length < 16777216 := by omega
      simp [Src.get, fl]
      refine ⟨F ++ [us], by simp; omega, by rw [hz]; simp [List.map_drop], ?_, thO_app hn hr hth hchk, ?_, by simp [lotD]⟩
      · intro l hl
        rcases List.mem_append.mp hl with h | h
        · exact hiF l h
        · simp at h; subst h
          exact ⟨hul, hup, hub⟩
      · congr 1
        funext i
        rw [List.length_append]
        exact cm_app.symm
  · obtain ⟨F, z6, z7, z8, z9, z10, z11, z12, z13, hF, hz, hiF, hth, rfl, rfl⟩ := h
    have hFe : F.length = s.length := by
      have : (s.drop F.length).length = 0 := by
        cases q : s.drop F.length with
        | nil => rfl
        | cons x xs => rw [q] at hz; cases hz
      simp at this; omega
    refine ⟨trivial, ?_⟩
    simp [Src.get]
    refine ⟨F, rfl, hFe, ⟨by omega, hiF⟩, brD_none fun b hb j hj => okb_brk (hth b hb j _ (by simp [hj]))⟩
end L54

end
section
set_option Elab.async false
set_option linter.all false
set_option maxRecDepth 100000
set_option maxHeartbeats 4000000
/-! odd rows -/
namespace L54
open PySem Dn Pg
theorem Pd.mid {b : Nat} {xs : List D} {z : D} {v : Nat} (hv : v < xs.length) (hl : xs.length ≤ b) (hx : ∀ x ∈ xs, Pd b x) (hz : Pd b z) : Pd b (.tup (xs.take v ++ z :: xs.drop (v + 1))) := by
  refine Pd.of_tup (by simp; omega) fun x h => ?_
  rcases List.mem_append.mp h with q | q
  · exact hx x (List.mem_of_mem_take q)
  · rcases List.mem_cons.mp q with rfl | q
    · exact hz
    · exact hx x (List.mem_of_mem_drop q)
theorem row_pd {r : Option Row} {b : Nat} (hb : 3 ≤ b) : Pd b (rD r) := by
  cases r with
  | none => exact fun _ => rfl
  | some r => intro S; simp [rD, rT]; omega
theorem odd_wp {S : Store} {n : Int} {rows : List (Option Row)} (hS : HandOk S 0) (hr1 : 1 ≤ rows.length) (hr2 : rows.length ≤ 5) : (m__law_odd_rows [.ref 0, .int n, .tup (rows.map rD)] S).wp (fun d S' => Kp S S' ∧ Pd 100 d) noE := by
  refine fn_wp rfl ?_
  simp [b__law_odd_rows]
  refine draw_wp hS (by omega) (by omega) fun v S1 d1 v0 v1 => ?_
  obtain ⟨v, rfl⟩ := Int.eq_ofNat_of_zero_le v0
  have hv : v < (rows.map rD).length := by simp; omega
  obtain ⟨row, hrow⟩ : ∃ row, row = rows[v]'(by simpa using hv) := Exists.intro _ (Eq.refl _)
  have ra : atD (rows.map rD) (v : Int) = some (rD row) := atD_nat (by rw [List.getElem?_map, List.getElem?_eq_getElem (by simpa using hv), hrow]; rfl)
  obtain ⟨a, t, k, hk⟩ : ∃ a t k : Int, (match row with | none => D.tup [.int 1, .int 0, .int 0] | some r => rT r) = .tup [.int a, .int t, .int k] := by
    cases row with
    | none => exact ⟨1, 0, 0, rfl⟩
    | some r => exact ⟨r.1, r.2.1, r.2.2, rfl⟩
  rw [swp_next]
  dsimp only
  refine seq_cut (fun r S' => S' = S1 ∧ r = [.val (.ref 0), .val (.int n), .val (.tup (rows.map rD)), .val (.int v), .val (.tup [.int a, .int t, .int k]), .un, .un, .un, .un]) ?_ ?_
  · rw [← hk]
    cases row with
    | none => simp [ra, rD]
    | some r => simp [ra, rD, rT]
  rintro _ S1 ⟨rfl, rfl⟩
  simp
  refine draw_wp d1.1 (by decide) (by decide) fun w S2 d2 w0 w1 => ?_
  obtain ⟨w, rfl⟩ := Int.eq_ofNat_of_zero_le w0
  have hw : w < [D.int a, .int t, .int k].length := by simp; omega
  simp [opNeg]
  have k2 := d1.kp.trans d2.kp
  refine (deep_ok k2.hand).mono fun y S3 ⟨k3, hy⟩ => ?_
  simp
  refine pick_wp (k2.trans k3).hand (by simp) (by simp) fun odd S4 d4 hodd => ?_
  have k4 := (k2.trans k3).trans d4.kp
  have hodd : Pd 100 odd := by
    simp at hodd
    rcases hodd with rfl | rfl | rfl | rfl | rfl | rfl | rfl | rfl | rfl | rfl <;> first | exact fun _ => rfl | exact hy.mono (by omega)
  have e1 := cut_take hw
  have e2 := cut_drop hw
  have e3 := cut_take hv
  have e4 := cut_drop hv
  have pr : ∀ x ∈ rows.map rD, Pd 100 x := fun x hx => by
    obtain ⟨r, _, rfl⟩ := List.mem_map.mp hx
    exact row_pd (by decide)
  have pi : ∀ x ∈ [D.int a, .int t, .int k], Pd 100 x := fun x hx => by
    simp at hx
    rcases hx with rfl | rfl | rfl <;> exact fun _ => rfl
  have q1 : Pd 100 (.tup ([D.int a, .int t, .int k].take w ++ odd :: [D.int a, .int t, .int k].drop (w + 1))) := Pd.mid hw (by simp) pi hodd
  obtain ⟨xs, hxs⟩ : ∃ xs, xs = rows.map rD := Exists.intro _ (Eq.refl _)
  have hxl : xs.length ≤ 5 := by rw [hxs]; simpa using hr2
  have hxl1 : 1 ≤ xs.length := by rw [hxs]; simpa using hr1
  rw [← hxs] at hv pr e3 e4 ⊢
  have s1 : min v xs.length + (xs.length - (v + 1)) ≤ 16777216 := by omega
  have s3 : xs.length ≤ 16777216 := by omega
  have s4 : min v xs.length + 1 ≤ 16777216 := by omega
  have s5 : min v xs.length + 1 + (xs.length - (v + 1)) ≤ 16777216 := by omega
  have mt : ∀ S, opMul S (.tup xs) (.int 7) = some (.tup (repD 7 xs)) := fun S => mul_tup (by decide) (by decide) (by omega)
  have t1 : min w 3 + 1 ≤ 16777216 := by omega
  have t2 : min w 3 + 1 + (2 - w) ≤ 16777216 := by omega
  rw [List.drop_succ_cons] at q1
  have c2 : cutD [D.int a, .int t, .int k] none (some 2) = [.int a, .int t] := cut_take (xs := [D.int a, .int t, .int k]) (v := 2) (by simp)
  clear hxs ra hk hrow
  simp [e1, e2, e3, e4, s1, s3, s4, s5, t1, t2, mt, c2]
  refine pick_wp k4.hand (by simp) (by simp) fun d S5 d5 hd => ?_
  simp
  refine ⟨k4.trans d5.kp, ?_⟩
  obtain ⟨q, hq⟩ : ∃ q, q = D.tup ([D.int a, .int t, .int k].take w ++ odd :: [D.int t, .int k].drop w) := Exists.intro _ (Eq.refl _)
  rw [← hq] at q1 hd
  simp at hd
  have m1 := Pd.mid hv (by omega) pr q1
  have m2 : Pd 100 (.lst [D.int a, .int t, .int k]) := fun S => by simp
  have m3 : Pd 100 (.tup [D.int a, .int t]) := fun S => by simp
  rcases hd with rfl | rfl | rfl | rfl | rfl | rfl | rfl | rfl
  · exact m1
  · exact Pd.mid hv (by omega) pr m2
  · exact Pd.of_lst (by omega) pr
  · exact fun S => by simp
  · exact Pd.of_tup (by rw [repD_len]; omega) fun x hx => pr x (repD_mem x hx)
  · exact fun _ => rfl
  · exact m1
  · exact Pd.mid hv (by omega) pr m3
theorem due_pl {x y d : D} (h : dueO x y = some d) : D.pl 3 d = true ∧ (∀ S, d.soi [] 1000 S = true) ∧ cmpIsN d = some false := by
  have go : ∀ (n : Int) (ys : List D) (i : Int), rowGo n i ys = some d → ∃ j, d = .int j := by
    intro n ys
    induction ys with
    | nil => intro i h; cases h
    | cons y ys ih =>
      intro i h
      simp only [rowGo] at h
      split at h
      · exact ih _ h
      · exact ⟨i, by cases h; rfl⟩
  have st : ∀ t, PyData.strOk t = true → D.pl 3 (.str t) = true := fun t ht => by simpa [D.pl] using ht
  unfold dueO at h
  split at h
  · unfold rowsD at h
    split at h
    · split at h
      · obtain ⟨j, rfl⟩ := go _ _ _ h
        exact ⟨rfl, fun _ => rfl, rfl⟩
      · cases h
        exact ⟨st _ (by decide +kernel), fun _ => rfl, rfl⟩
    · cases h
      exact ⟨st _ (by decide +kernel), fun _ => rfl, rfl⟩
  · cases h
    exact ⟨st _ (by decide +kernel), fun _ => rfl, rfl⟩
theorem due_no {x y : D} (h : dueO x y = none) : D.pl 3 (.lst [x, y]) = true ∧ ∀ S, (D.lst [x, y]).soi [] 1000 S = true := by
  have row : ∀ n z, rowP n z = true → D.pl 1 z = true ∧ ∀ S, z.soi [] 1000 S = true := fun n z hz => by
    unfold rowP at hz
    split at hz
    · exact ⟨rfl, fun _ => rfl⟩
    · simp only [Bool.and_eq_true] at hz
      obtain ⟨i, rfl, _⟩ := wi_t hz.1
      obtain ⟨j, rfl, _⟩ := wi_t hz.2.1
      obtain ⟨k, rfl, _⟩ := wi_t hz.2.2
      exact ⟨rfl, fun S => by simp⟩
    · cases hz
  have go : ∀ (n : Int) (ys : List D) (i : Int), rowGo n i ys = none → ∀ z ∈ ys, D.pl 1 z = true ∧ ∀ S, z.soi [] 1000 S = true := by
    intro n ys
    induction ys with
    | nil => intro i h z hz; cases hz
    | cons y ys ih =>
      intro i h z hz
      simp only [rowGo] at h
      split at h
      · rename_i hr
        rcases List.mem_cons.mp hz with rfl | hz
        · exact row n _ hr
        · exact ih _ h z hz
      · cases h
  unfold dueO at h
  split at h
  · rename_i hw
    obtain ⟨n, rfl, _⟩ := wi_t hw
    unfold rowsD at h
    split at h
    · rename_i ys
      split at h
      · rename_i hl
        have g := go _ _ _ h
        refine ⟨?_, fun S => ?_⟩
        · simp only [D.pl, D.pls, Bool.and_true, Bool.true_and]
          exact pls_of' fun z hz => (g z hz).1
        · simp
          exact ⟨by omega, sos_of fun z hz => (g z hz).2 S⟩
      · cases h
    · cases h
  · cases h
theorem judged_wp {S : Store} {n : Int} {rows : List (Option Row)} (hS : HandOk S 0) (hr1 : 1 ≤ rows.length) (hr2 : rows.length ≤ 5) : (m__law_judged_right [.ref 0, .int n, .tup (rows.map rD)] S).wp (fun d S' => Kp S S' ∧ d = .bl true) noE := by
  refine fn_wp rfl ?_
  simp [b__law_judged_right, opNeg]
  refine (deep_ok hS).mono fun y S1 ⟨k1, hy⟩ => ?_
  simp
  refine pick_wp k1.hand (by simp) (by simp) fun odd S2 d2 hodd => ?_
  have k2 := k1.trans d2.kp
  have hodd : Pd 100000 odd := by
    simp at hodd
    rcases hodd with rfl | rfl | rfl | rfl | rfl | rfl | rfl | rfl | rfl <;> first | exact fun _ => rfl | exact hy.mono (by omega)
  simp
  refine (odd_wp (n := n) k2.hand hr1 hr2).mono fun some_ S3 ⟨k3, hsome⟩ => ?_
  have hsome : Pd 100000 some_ := hsome.mono (by decide)
  have t := told_ok (S := S3) hodd hsome
  have k4 := fun o => (k2.trans k3).trans (Kp.app k3.hand [o])
  simp
  cases q : dueO odd some_ with
  | none =>
    rw [q] at t
    have du := fun S => due_ok (S := S) hodd hsome
    simp only [q, Option.getD_none] at du
    obtain ⟨p1, p2⟩ := due_no q
    have sm := fun S => same_ok (S := S) (d := .non) rfl rfl
    have sl := fun S => same_ok (S := S) p1 (p2 S)
    simp [t, du, sm, sl]
    exact k4 _
  | some d =>
    rw [q] at t
    have du := fun S => due_ok (S := S) hodd hsome
    simp only [q, Option.getD_some] at du
    obtain ⟨p1, p2, nn⟩ := due_pl q
    have sm := fun S => same_ok (S := S) p1 (p2 S)
    simp [t, du, sm, nn]
    exact k4 _
end L54

end
section
set_option Elab.async false
set_option linter.all false
set_option maxRecDepth 100000
set_option maxHeartbeats 4000000
/-! long streams -/
namespace L54
open PySem Dn Pg
theorem kp_of {S S' : Store} (h : HandOk S 0) (h1 : ∀ l, l < S.length → S'[l]? = S[l]?) (h2 : S.length ≤ S'.length) : Kp S S' := ⟨hand_congr h (h1 0 (hand_lt h)), h2, fun l o _ e => by rw [h1 l (lt_of_get e)]; exact e⟩
theorem brD_pl (n : Int) (rows : List (Option Row)) (s : Strm) : D.pl 3 (brD n rows s) = true ∧ ∀ S, (brD n rows s).soi [] 1000 S = true := by
  have line : ∀ b (rs : List (Option Row)) i d, brLine n s b i rs = some d → D.pl 3 d = true ∧ ∀ S, d.soi [] 1000 S = true := by
    intro b rs
    induction rs with
    | nil => intro i d h; cases h
    | cons r rs ih =>
      intro i d h
      simp only [brLine] at h
      split at h
      · cases h
        exact ⟨rfl, fun S => by simp⟩
      · exact ih _ d h
  have go : ∀ m b, D.pl 3 (brGo n rows s b m) = true ∧ ∀ S, (brGo n rows s b m).soi [] 1000 S = true := by
    intro m
    induction m with
    | zero => intro b; exact ⟨rfl, fun _ => rfl⟩
    | succ m ih =>
      intro b
      simp only [brGo]
      split
      · rename_i d e; exact line _ _ _ d e
      · exact ih _
  exact go _ _
theorem rest_all {n : Int} {s : Strm} {i : Int} (hn : 0 < n) (h : ∀ j, at1 s j i = 0) : ∀ b, OkB n none s i b
  | 0 => okb_rest0 hn (fun _ h => by cases h) (h 0)
  | b + 1 => okb_rest hn (fun _ h => by cases h) (h (b + 1)) (rest_all hn h b)
def zlot (l : List Int) : Prop := l = [] ∨ l = [0]
theorem zlot_ok {m : Nat} {F : Strm} (hm : 1 ≤ m) (hl : F.length ≤ 1000) (h : ∀ l ∈ F, zlot l) : okS m F := ⟨hl, fun l hl => by
  rcases h l hl with rfl | rfl
  · simp
  · simp; omega⟩
theorem long_none {n : Int} {r : Row} {rows : List (Option Row)} {F : Strm} (hn : 0 < n) (hr : okRow n r) (hrows : rows = [some r] ∨ rows = [some r, none]) (hz : ∀ l ∈ F, zlot l) (hat : ∀ j < F.length, at1 F j 0 = snt n r ((j + 1 : Nat) : Int) - snt n r j) : brD n rows F = .non := by
  have a0 : ∀ b, b < F.length → OkB n (some r) F 0 b := fun b hb => okb_own hn hr fun j hj => hat j (by omega)
  have a1 : ∀ b, OkB n none F 1 b := rest_all hn fun j => by
    unfold at1
    rw [if_neg]
    intro z
    unfold lotA at z
    rw [List.getD_eq_getElem?_getD] at z
    cases q : F[j]? with
    | none => rw [q] at z; cases z
    | some l =>
      rw [q] at z
      rcases hz l (List.mem_of_getElem? q) with rfl | rfl <;> simp at z
  refine brD_none fun b hb j hj => okb_brk ?_
  rcases hrows with rfl | rfl
  · have : j = 0 := by simp at hj; omega
    subst this
    exact a0 b hb
  · have : j = 0 ∨ j = 1 := by simp at hj; omega
    rcases this with rfl | rfl
    · exact a0 b hb
    · exact a1 b
theorem bk_make {n : Int} {rows : List (Option Row)} (S : Store) (hn : 0 < n) (hn2 : n ≤ 20) (h : okRows n rows) : m_Buckets_init [.ref S.length, .int n, .tup (rows.map rD)] (S ++ [.ins "Buckets" []]) = .ok .non (S ++ [bk n (.tup (rows.map rD))]) := by
  have := bucket_init (S ++ [(.ins "Buckets" [] : SO)]) (l := S.length) (by simp) hn hn2 h
  rw [this]
  simp
theorem long_wp {S : Store} (hS : HandOk S 0) : (m__law_long_right [.ref 0] S).wp (fun d S' => Kp S S' ∧ d = .bl true) noE := by
  refine fn_wp rfl ?_
  simp [b__law_long_right]
  refine draw_wp hS (by decide) (by decide) fun v S1 d1 v0 v1 => ?_
  obtain ⟨n, hn⟩ : ∃ n, n = 3 + v := ⟨_, rfl⟩
  simp [← hn]
  refine draw_wp d1.1 (by decide) (by decide) fun a S2 d2 a0 a1 => ?_
  simp
  refine draw_wp d2.1 (by omega) (by omega) fun t S3 d3 t0 t1 => ?_
  simp
  refine draw_wp d3.1 (by decide) (by decide) fun c S4 d4 c0 c1 => ?_
  obtain ⟨r, hr⟩ : ∃ r : Row, r = (2 + a, t, 0) := ⟨_, rfl⟩
  have hro : okRow n r := by rw [hr]; exact ⟨by show 1 ≤ 2 + a; omega, by show 2 + a ≤ 20; omega, t0, by show t ≤ n; omega, by show (0 : Int) ≤ 0; omega, by show (0 : Int) ≤ 7; omega⟩
  obtain ⟨rows, e, hrows⟩ : ∃ rows : List (Option Row), cutD [D.tup [.int (2 + a), .int t, .int 0], .non] none (some (1 + c)) = rows.map rD ∧ (rows = [some r] ∨ rows = [some r, none]) := by
    have : c = 0 ∨ c = 1 := by omega
    rcases this with rfl | rfl
    · exact ⟨[some r], by rw [hr]; rfl, .inl rfl⟩
    · exact ⟨[some r, none], by rw [hr]; rfl, .inr rfl⟩
  simp [e]
  refine draw_wp d4.1 (by decide) (by decide) fun w S5 d5 w0 w1 => ?_
  have k5 := (((d1.kp.trans d2.kp).trans d3.kp).trans d4.kp).trans d5.kp
  have hok : okRows n rows := by
    rcases hrows with rfl | rfl
    · exact ⟨by simp, by simp, fun x hx y hy => by simp at hx; subst hx; cases hy; exact hro⟩
    · exact ⟨by simp, by simp, fun x hx y hy => by
        simp at hx
        rcases hx with rfl | rfl
        · cases hy; exact hro
        · cases hy⟩
  have h0 : atD (rows.map rD) 0 = some (rT r) := by rcases hrows with rfl | rfl <;> rfl
  have hn0 : 0 < n := by omega
  have hrl : 1 ≤ rows.length := hok.1
  obtain ⟨N, hN⟩ : ∃ N : Nat, 200 + w = N := ⟨(200 + w).toNat, by omega⟩
  have lno := fun F => long_none (F := F) hn0 hro hrows
  clear hr e hrows
  simp [hN]
  refine range1_wp ?_
  simp
  refine ⟨by omega, ?_⟩
  refine for_wp (I := fun zs r' S' => ∃ (F : Strm) (z5 z6 : Sl), F.length ≤ N ∧ zs = ((List.range N).map fun (k : Nat) => D.int k).drop F.length ∧ (∀ l ∈ F, zlot l) ∧ (∀ j < F.length, at1 F j 0 = snt n r ((j + 1 : Nat) : Int) - snt n r j) ∧ S' = S5 ∧ r' = [.val (.ref 0), .val (.int n), .val (.tup (rows.map rD)), .val (.int N), .own (F.map lotD), z5, z6, .un]) (fun z zs r' S' h => ?_) (fun r' S' h => ?_) ⟨[], .un, .un, Nat.zero_le _, rfl, by simp, by simp, rfl, rfl⟩
  · obtain ⟨F, z5, z6, hF, hz, hzl, hat, rfl, rfl⟩ := h
    have hF' : F.length < N := by
      refine Classical.byContradiction fun q => ?_
      rw [List.drop_eq_nil_of_le (by simp; omega)] at hz; cases hz
    rw [List.drop_eq_getElem_cons (by simpa using hF')] at hz
    simp at hz
    obtain ⟨rfl, hz⟩ := hz
    have e1 := sent2 (b := (F.length : Int) + 1) S' hn0 (by omega) hro (by omega) (by omega)
    have e2 := sent2 (b := (F.length : Int)) S' hn0 (by omega) hro (by omega) (by omega)
    have st := snt_step (n := n) (r := r) (x := (F.length : Int)) hn0 hro
    have mo := snt_mono (n := n) (r := r) (a := (F.length : Int)) (b := (F.length : Int) + 1) hn0 hro (by omega)
    have fl : F.length < 16777216 := by omega
    have nx : ∀ us : List Int, zlot us → (if (0 : Int) ∈ us then (1 : Int) else 0) = snt n r ((F.length : Int) + 1) - snt n r F.length → (∀ l ∈ F ++ [us], zlot l) ∧ ∀ j < (F ++ [us]).length, at1 (F ++ [us]) j 0 = snt n r ((j + 1 : Nat) : Int) - snt n r j := fun us hu hv => by
      refine ⟨fun l hl => ?_, fun j hj => ?_⟩
      · rcases List.mem_append.mp hl with h | h
        · exact hzl l h
        · simp at h; subst h; exact hu
      · by_cases q : j < F.length
        · rw [← hat j q]; unfold at1; rw [lotA_app q]
        · have : j = F.length := by simp at hj; omega
          subst this
          unfold at1
          rw [lotA_last, hv]; simp
    refine ⟨trivial, _, by simp; rfl, ?_⟩
    simp [h0, e1, opAdd, e2]
    by_cases q : snt n r F.length < snt n r ((F.length : Int) + 1)
    · obtain ⟨n1, n2⟩ := nx [0] (.inr rfl) (by simp; omega)
      simp [q, fl]
      exact ⟨F ++ [[0]], by simp; omega, by rw [hz]; simp, n1, n2, by simp [lotD]⟩
    · obtain ⟨n1, n2⟩ := nx [] (.inl rfl) (by simp; omega)
      simp [q, fl]
      exact ⟨F ++ [[]], by simp; omega, by rw [hz]; simp, n1, n2, by simp [lotD]⟩
  · obtain ⟨F, z5, z6, hF, hz, hzl, hat, rfl, rfl⟩ := h
    have hFN : F.length = N := by
      have : ((List.range N).map fun (k : Nat) => D.int k).length - F.length = 0 := by rw [← List.length_drop, ← hz]; rfl
      simp at this; omega
    refine ⟨trivial, ?_⟩
    have bn := lno F hzl hat
    have zs := zlot_ok hrl (by omega) hzl
    have mk := fun S => bk_make S hn0 (by omega) hok
    dsimp only
    simp [mk, Src.get]
    have hS5 := k5.hand
    refine (breach_ok (w := .non) (S := S' ++ [bk n (.tup (rows.map rD))]) (l := S'.length) (by simp) hn0 (by omega) hok bn.symm zs).mono fun v S6 ⟨hv, o1, o2⟩ => ?_
    subst hv
    have k6 := (k5.trans (Kp.app k5.hand [bk n (.tup (rows.map rD))])).trans (kp_of (Kp.app k5.hand _).hand o1 o2)
    simp
    refine range2_wp ?_
    simp
    refine ⟨by omega, ?_⟩
    refine wp_of (lc_fmA (enc := fun k : Nat => D.int (100 + (k : Int))) (p := fun k => decide (lotA F (100 + k) = [])) (f := fun k => .int (100 + (k : Int))) trivial fun k hk => ⟨_, by simp; rfl, ?_, by simp⟩) ?_
    · have hk := List.mem_range.mp hk
      have la := lot_at (s := F) (j := 100 + k) (by omega)
      have c : ∀ S, cmpEq S (lotD (lotA F (100 + k))) (.tup []) = some (decide (lotA F (100 + k) = [])) := fun S => by
        have : zlot (lotA F (100 + k)) := by
          have hl : 100 + k < F.length := by omega
          have e : lotA F (100 + k) = F[100 + k] := by simp [lotA, hl]
          rw [e]; exact hzl _ (List.getElem_mem hl)
        rcases this with e | e <;> rw [e] <;> rfl
      rw [show (((100 + k : Nat) : Nat) : Int) = 100 + (k : Int) by omega] at la
      simp [Src.get, la, c]
    have fin : ∀ (F' : Strm) (S7 : Store) (z5 z6 z7 : Sl), Kp S S7 → (∀ l ∈ F', zlot l) → F'.length ≤ 1000 → (sRet (eCall m__law_same (aCons (eCall m_breach (aCons (eMake "Buckets" m_Buckets_init (aCons (eVar 1) (aCons (eVar 2) aNil))) (aCons (eTupOf (lOwn 4)) aNil))) (aCons (eCall m__law_breach (aCons (eVar 2) (aCons (eVar 1) (aCons (eTupOf (lOwn 4)) aNil)))) aNil)))
        [.val (.ref 0), .val (.int n), .val (.tup (rows.map rD)), .val (.int N), .own (F'.map lotD), z5, z6, z7] S7).wp ⟨fun x S_4 => Kp S S_4 ∧ D.non = D.bl true, fun d x S_4 => Kp S S_4 ∧ d = D.bl true, fun _ _ => False, fun _ _ => False, fun c fs _ S => noE c fs S⟩ := fun F' S7 z5 z6 z7 k7 hz' hl' => by
      have zs' := zlot_ok hrl hl' hz'
      simp [mk, Src.get]
      refine (breach_ok (w := brD n rows F') (S := S7 ++ [bk n (.tup (rows.map rD))]) (l := S7.length) (by simp) hn0 (by omega) hok rfl zs').mono fun v S8 ⟨hv, o1, o2⟩ => ?_
      subst hv
      have k8 := (k7.trans (Kp.app k7.hand [bk n (.tup (rows.map rD))])).trans (kp_of (Kp.app k7.hand _).hand o1 o2)
      have lb := lbreach (S := S8) (w := brD n rows F') hn0 (by omega) hok rfl zs'.1
      obtain ⟨p1, p2⟩ := brD_pl n rows F'
      have sm := same_ok (S := S8) p1 (p2 S8)
      simp [sD] at lb
      simp [Src.get, lb, sm, k8]
    obtain ⟨rs, hrs⟩ : ∃ rs, rs = (List.range (N - 100 : Int).toNat).filter fun k => decide (lotA F (100 + k) = []) := Exists.intro _ (Eq.refl _)
    have hrm : ∀ k ∈ rs, 100 + k < F.length := fun k hk => by
      rw [hrs, List.mem_filter, List.mem_range] at hk
      omega
    have hrl2 : rs.length ≤ 1000 := by
      rw [hrs]
      have := List.length_filter_le (fun k => decide (lotA F (100 + k) = [])) (List.range (N - 100 : Int).toNat)
      simp at this; omega
    rw [← hrs]
    rw [wp_ok]
    try dsimp only
    rw [swp_next]
    try dsimp only
    refine seq_cut (fun r1 S7 => Kp S S7 ∧ ∃ (F' : Strm) (z5 z6 z7 : Sl), (∀ l ∈ F', zlot l) ∧ F'.length ≤ 1000 ∧ r1 = [.val (.ref 0), .val (.int n), .val (.tup (rows.map rD)), .val (.int N), .own (F'.map lotD), z5, z6, z7]) ?_ ?_
    · by_cases q : rs = []
      · simp [q]
        exact ⟨k6, F, hzl, by omega, rfl⟩
      · have ql : 0 < rs.length := List.length_pos_iff.mpr q
        simp [ql]
        refine pick_wp k6.hand (by rw [List.length_map]; exact ql) (by rw [List.length_map]; exact hrl2) fun x S7 d7 hx => ?_
        obtain ⟨k, hk, rfl⟩ := List.mem_map.mp hx
        have hkl := hrm k hk
        have pl : place F.length (100 + (k : Int)) = some (100 + k) := by
          unfold place
          rw [if_pos (by omega), if_pos (by omega)]
          congr 1
        simp [pl]
        refine ⟨k6.trans d7.kp, F.set (100 + k) [0], fun l hl => ?_, by simp; omega, by rw [List.map_set]; rfl⟩
        rcases List.mem_or_eq_of_mem_set hl with h | h
        · exact hzl l h
        · exact .inr h
    · rintro _ S7 ⟨k7, F', z5, z6, z7, hz', hl', rfl⟩
      exact fin F' S7 z5 z6 z7 k7 hz' hl'
end L54

end
section
set_option Elab.async false
set_option linter.all false
set_option maxRecDepth 100000
set_option maxHeartbeats 4000000
/-! sorted sets of lines -/
namespace L54
open PySem Dn Pg
theorem ins_mem {x y : Int} : ∀ {l : List Int}, y ∈ insS x l → y = x ∨ y ∈ l
  | [], h => by simpa [insS] using h
  | z :: l, h => by
    unfold insS at h
    split at h
    · simpa using h
    · split at h
      · exact .inr h
      · rcases List.mem_cons.mp h with q | q
        · exact .inr (by simp [q])
        · rcases ins_mem q with q | q
          · exact .inl q
          · exact .inr (List.mem_cons_of_mem _ q)
theorem set_mem {y : Int} : ∀ {l : List Int}, y ∈ sortSet l → y ∈ l
  | [], h => by simp [sortSet] at h
  | x :: l, h => by
    rcases ins_mem h with q | q
    · simp [q]
    · exact List.mem_cons_of_mem _ (set_mem q)
theorem ins_len {x : Int} : ∀ {l : List Int}, 1 ≤ (insS x l).length ∧ (insS x l).length ≤ l.length + 1
  | [] => by simp [insS]
  | z :: l => by
    unfold insS
    split
    · simp
    · split
      · simp
      · have := ins_len (x := x) (l := l); simp; omega
theorem set_len : ∀ {l : List Int}, (sortSet l).length ≤ l.length
  | [] => by simp [sortSet]
  | x :: l => by
    have := set_len (l := l)
    have := ins_len (x := x) (l := sortSet l)
    show (insS x (sortSet l)).length ≤ _
    simp; omega
theorem ins_asc {x : Int} : ∀ {l : List Int}, l.Pairwise (· < ·) → (insS x l).Pairwise (· < ·)
  | [], _ => by simp [insS]
  | z :: l, h => by
    obtain ⟨h1, h2⟩ := List.pairwise_cons.mp h
    unfold insS
    split
    · rename_i q
      refine List.pairwise_cons.mpr ⟨fun y hy => ?_, h⟩
      rcases List.mem_cons.mp hy with e | e
      · omega
      · have := h1 y e; omega
    · split
      · exact h
      · rename_i q1 q2
        refine List.pairwise_cons.mpr ⟨fun y hy => ?_, ins_asc h2⟩
        rcases ins_mem hy with e | e
        · omega
        · exact h1 y e
theorem set_asc : ∀ {l : List Int}, (sortSet l).Pairwise (· < ·)
  | [] => by simp [sortSet]
  | x :: l => ins_asc set_asc
theorem asc_len : ∀ {l : List Int} {lo hi : Int}, l.Pairwise (· < ·) → (∀ i ∈ l, lo ≤ i ∧ i < hi) → lo ≤ hi → (l.length : Int) ≤ hi - lo
  | [], lo, hi, _, _, h => by simp; omega
  | x :: l, lo, hi, hp, hb, h => by
    rw [List.pairwise_cons] at hp
    have h1 := hb x (List.mem_cons_self ..)
    have := asc_len (l := l) (lo := x + 1) (hi := hi) hp.2 (fun i hi' => ⟨by have := hp.1 i hi'; omega, (hb i (List.mem_cons_of_mem _ hi')).2⟩) (by omega)
    simp only [List.length_cons]
    omega
@[simp] theorem nSortSetT_ap (a : DL) (r : Rho) (S : Store) : nSortSetT a r S = ((a r S).bind fun c S => Rs.ofO (if c.isT then (c.get r S).bind fun xs => (intsOf xs).bind fun ns => if ns.length < 64 then some ((sortSet ns).map D.int) else none else none) S) := rfl
end L54

end
section
set_option Elab.async false
set_option linter.all false
set_option maxRecDepth 100000
set_option maxHeartbeats 4000000
namespace L54
open PySem Dn Pg
theorem due_right {n : Int} {rows : List (Option Row)} (hn : 0 < n) (hn2 : n ≤ 20) (h : okRows n rows) : dueO (.int n) (.tup (rows.map rD)) = none := by
  have rp : ∀ r ∈ rows, rowP n (rD r) = true := fun r hr => by
    cases r with
    | none => rfl
    | some r =>
      obtain ⟨h1, h2, h3, h4, h5, h6⟩ := h.2.2 _ hr r rfl
      simp [rD, rT, rowP, h1, h2, h3, h4, h5, h6]
  have go : ∀ (rs : List (Option Row)) (i : Int), (∀ r ∈ rs, r ∈ rows) → rowGo n i (rs.map rD) = none := by
    intro rs
    induction rs with
    | nil => intro i _; rfl
    | cons r rs ih =>
      intro i hin
      simp only [List.map_cons, rowGo, rp r (hin r (List.mem_cons_self ..)), if_true]
      exact ih _ fun x hx => hin x (List.mem_cons_of_mem _ hx)
  have w : wi (.int n) 1 20 = true := by simp; omega
  unfold dueO
  rw [if_pos w]
  show rowsD n (.tup (rows.map rD)) = none
  show (if 1 ≤ (rows.map rD).length ∧ (rows.map rD).length ≤ 12 then rowGo n 0 (rows.map rD) else some (.str "rows")) = none
  rw [if_pos (by rw [List.length_map]; exact ⟨h.1, h.2.1⟩)]
  exact go rows 0 fun _ h => h
theorem neq_bk {S : Store} {l : Nat} {xs : List D} {o : SO} : m_Buckets___eq__ [.ref l, .tup xs] S = .ok (.bl false) S := by
  simp [m_Buckets___eq__, fnD_fin, b_Buckets___eq__, tyName]
theorem most_ok {S : Store} {n : Int} {rows : List (Option Row)} {l : Nat} {i : Nat} {b : Int} {row : Option Row} (hl : S[l]? = some (bk n (.tup (rows.map rD)))) (hn : 0 < n) (hn2 : n ≤ 20) (h : okRows n rows) (hi : rows[i]? = some row) (b0 : 0 ≤ b) (b1 : b ≤ 1000000000) : m_most_sent [.ref l, .int i, .int b] S = .ok (.int (sntO n row b)) S := by
  have hil : i < rows.length := by
    refine Classical.byContradiction fun q => ?_
    rw [List.getElem?_eq_none (by omega)] at hi; cases hi
  have ra : atD (rows.map rD) (i : Int) = some (rD row) := atD_nat (by rw [List.getElem?_map, hi]; rfl)
  have cl : m_check_line [.ref l, .int i] S = .ok .non S := by
    refine wp_eq (fn_wp rfl ?_)
    have : (0 : Int) ≤ i ∧ (i : Int) ≤ rows.length - 1 := by omega
    simp [b_check_line, hl, opSub, isw, this]
  have es := sentO1 S hn (by omega) (fun x hx => h.2.2 row (List.mem_of_getElem? hi) x hx) b0 b1
  refine wp_eq (fn_wp rfl ?_)
  simp [b_most_sent, cl, isw, b0, b1, hl, ra, es]
theorem law_pure (ns : List Int) (hns : ns.length ≤ 63) : ∃ S, m_law [.lst (ns.map D.int)] [] = .ok (.bl true) S := by
  obtain ⟨S0, e0, h0, l0⟩ := hand0 ns
  suffices h : (m_law [.lst (ns.map D.int)] []).wp (fun v S => v = .bl true) noE by
    obtain ⟨v, S, e, hv⟩ := wp_ex h
    exact ⟨S, by rw [e, hv]⟩
  refine fn_wp rfl ?_
  obtain ⟨z0, hz0⟩ : ∃ z0, z0 = D.lst (ns.map D.int) := Exists.intro _ (Eq.refl _)
  rw [← hz0] at e0 ⊢
  refine seq_cut (fun r S => HandOk S 0 ∧ r = [.val z0, .val (.ref 0), .un, .un, .un, .un, .un, .un, .un, .un, .un, .un, .un, .un]) (by simp [e0, h0]) ?_
  rintro _ S1 ⟨h1, rfl⟩
  refine seq_cut (fun r S => HandOk S 0 ∧ r = [.val z0, .val (.ref 0), .un, .un, .un, .un, .un, .un, .un, .un, .un, .un, .un, .un]) ?_ ?_
  · simp
    refine draw_wp h1 (by decide) (by decide) fun v S2 d2 v0 v1 => ?_
    simp
    by_cases q : v = 0
    · simp [q]
      refine (long_wp d2.1).mono fun d S3 ⟨k3, hd⟩ => ?_
      subst hd
      simp
      exact k3.hand
    · simp [q]
      exact d2.1
  rintro _ S1 ⟨h1, rfl⟩
  simp
  refine range1_wp ?_
  simp
  refine for_wp (I := fun zs r S' => ∃ z2 z3 z4 z5 z6 z7 z8 z9 z10 z11 z12 z13, HandOk S' 0 ∧ r = [.val z0, .val (.ref 0), z2, z3, z4, z5, z6, z7, z8, z9, z10, z11, z12, z13]) (fun x zs r S' h => ?_) (fun r S' h => ?_) ⟨_, _, _, _, _, _, _, _, _, _, _, _, h1, rfl⟩
  · obtain ⟨z2, z3, z4, z5, z6, z7, z8, z9, z10, z11, z12, z13, hS, rfl⟩ := h
    refine ⟨trivial, _, by simp; rfl, ?_⟩
    refine seq_cut (fun r S => HandOk S 0 ∧ ∃ n : Int, 1 ≤ n ∧ n ≤ 12 ∧ r = [.val z0, .val (.ref 0), .val x, .val (.int n), z4, z5, z6, z7, z8, z9, z10, z11, z12, z13]) ?_ ?_
    · simp
      refine draw_wp hS (by decide) (by decide) fun v S2 d2 v0 v1 => ?_
      simp [opAdd]
      exact ⟨d2.1, by omega, by omega⟩
    rintro _ S2 ⟨h2, n, n1, n2, rfl⟩
    refine seq_cut (fun r S => HandOk S 0 ∧ ∃ rows, okRows n rows ∧ rows.length ≤ 5 ∧ r = [.val z0, .val (.ref 0), .val x, .val (.int n), .val (.tup (rows.map rD)), z5, z6, z7, z8, z9, z10, z11, z12, z13]) ?_ ?_
    · simp
      refine (rows_wp h2 (by omega) n2).mono fun d S3 ⟨k3, rows, hd, hr, hl⟩ => ?_
      subst hd
      simp
      exact ⟨k3.hand, rows, hr, hl, rfl⟩
    rintro _ S3 ⟨h3, rows, hr, hl5, rfl⟩
    have hrl := hr.1
    have pn : Pd 100000 (.int n) := fun _ => rfl
    have prw : Pd 100000 (.tup (rows.map rD)) := Pd.of_tup (by simp; omega) fun y hy => by
      obtain ⟨r, _, rfl⟩ := List.mem_map.mp hy
      exact row_pd (by decide)
    have tld := told_ok (S := S3) pn prw
    rw [due_right (by omega) (by omega) hr] at tld
    dsimp only at tld
    refine seq_cut (fun r S => HandOk S 0 ∧ ∃ l, l ≠ 0 ∧ S[l]? = some (bk n (.tup (rows.map rD))) ∧ r = [.val z0, .val (.ref 0), .val x, .val (.int n), .val (.tup (rows.map rD)), .val .non, .val (.ref l), z7, z8, z9, z10, z11, z12, z13]) ?_ ?_
    · simp [tld]
      exact ⟨(Kp.app h3 _).hand, fun z => by have := hand_lt h3; rw [z] at this; simp at this⟩
    rintro _ S4 ⟨h4, l, l0, hl, rfl⟩
    have mk := fun S => bk_make (n := n) (rows := rows) S (by omega) (by omega) hr
    refine seq_cut (fun r S => HandOk S 0 ∧ S[l]? = some (bk n (.tup (rows.map rD))) ∧ r = [.val z0, .val (.ref 0), .val x, .val (.int n), .val (.tup (rows.map rD)), .val .non, .val (.ref l), z7, z8, z9, z10, z11, z12, z13]) ?_ ?_
    · have gl : (S4 ++ [bk n (.tup (rows.map rD))])[l]? = some (bk n (.tup (rows.map rD))) := by rw [List.getElem?_append_left (lt_of_get hl), hl]
      have ge : (S4 ++ [bk n (.tup (rows.map rD))])[S4.length]? = some (bk n (.tup (rows.map rD))) := by simp
      have eb := eq_bk gl ge hr.2.1
      have kk := (Kp.app h4 [bk n (.tup (rows.map rD))]).hand
      obtain ⟨T, hT⟩ : ∃ T, T = S4 ++ [bk n (.tup (rows.map rD))] := Exists.intro _ (Eq.refl _)
      simp [mk]
      rw [← hT] at gl ge eb kk ⊢
      have nb := neq_bk (S := T) (l := l) (xs := [.int n, .tup (rows.map rD)]) (o := bk n .non)
      simp [gl, ge, eb, eqRight, tyName, nb, kk]
    rintro _ S5 ⟨h5, hl, rfl⟩
    refine seq_cut (fun r S => HandOk S 0 ∧ S[l]? = some (bk n (.tup (rows.map rD))) ∧ ∃ (i : Nat) (b : Int), i < rows.length ∧ 0 ≤ b ∧ b ≤ 1000000000 ∧ r = [.val z0, .val (.ref 0), .val x, .val (.int n), .val (.tup (rows.map rD)), .val .non, .val (.ref l), .val (.int i), .val (.int b), z9, z10, z11, z12, z13]) ?_ ?_
    · simp
      refine draw_wp h5 (by omega) (by omega) fun v S6 d6 v0 v1 => ?_
      simp
      refine draw_wp d6.1 (by decide) (by decide) fun w S7 d7 w0 w1 => ?_
      simp [opPow]
      refine pick_wp d7.1 (by simp) (by simp) fun y S8 d8 hy => ?_
      obtain ⟨b, rfl, b0, b1⟩ : ∃ b : Int, y = .int b ∧ 0 ≤ b ∧ b ≤ 1000000000 := by
        simp at hy
        rcases hy with rfl | rfl | rfl | rfl | rfl <;> exact ⟨_, rfl, by omega, by omega⟩
      simp
      refine ⟨d8.1, by rw [d8.get l0, d7.get l0, d6.get l0]; exact hl, v.toNat, by omega, b, b0, b1, by omega, rfl⟩
    rintro _ S6 ⟨h6, hl, i, b, hi, b0, b1, rfl⟩
    obtain ⟨row, hrow⟩ : ∃ row, row = rows[i] := Exists.intro _ (Eq.refl _)
    have hget : rows[i]? = some row := by rw [hrow]; simp [hi]
    have hro : ∀ y, row = some y → okRow n y := fun y hy => hr.2.2 row (List.mem_of_getElem? hget) y hy
    have ra : atD (rows.map rD) (i : Int) = some (rD row) := atD_nat (by rw [List.getElem?_map, hget]; rfl)
    refine seq_cut (fun r S => HandOk S 0 ∧ S[l]? = some (bk n (.tup (rows.map rD))) ∧ r = [.val z0, .val (.ref 0), .val x, .val (.int n), .val (.tup (rows.map rD)), .val .non, .val (.ref l), .val (.int i), .val (.int b), z9, z10, z11, z12, z13]) ?_ ?_
    · have m1 := most_ok hl (by omega) (by omega) hr hget b0 b1
      have m2 := sentO2 S6 (by omega) (by omega) hro b0 b1
      have sm := same_ok (S := S6) (d := .int (sntO n row b)) rfl rfl
      simp [m1, ra, m2, sm]
      exact ⟨h6, hl⟩
    rintro _ S7 ⟨h7, hl, rfl⟩
    refine seq_cut (fun r S => HandOk S 0 ∧ S[l]? = some (bk n (.tup (rows.map rD))) ∧ ∃ F : Strm, F.length ≤ 31 ∧ okS rows.length F ∧ brD n rows F = .non ∧ r = [.val z0, .val (.ref 0), .val x, .val (.int n), .val (.tup (rows.map rD)), .val .non, .val (.ref l), .val (.int i), .val (.int b), .val (sD F), z10, z11, z12, z13]) ?_ ?_
    · simp
      refine draw_wp h7 (by decide) (by decide) fun v S8 d8 v0 v1 => ?_
      simp
      refine (stream_wp (m := rows.length) (k := v.toNat) d8.1 rfl (by omega) (by omega) (by omega)).mono fun d S9 ⟨k9, s, hd, hsl, hss⟩ => ?_
      subst hd
      simp
      refine (thin_wp (by omega) (by omega) hr hss).mono fun d S10 ⟨e10, F, hd, hFl, hFs, hFb⟩ => ?_
      subst hd e10
      simp
      exact ⟨k9.hand, k9.get _ _ l0 (by rw [d8.get l0]; exact hl), F, by omega, hFs, hFb, rfl⟩
    rintro _ S8 ⟨h8, hl, F, hFl, hFs, hFb, rfl⟩
    refine seq_cut (fun r S => HandOk S 0 ∧ S[l]? = some (bk n (.tup (rows.map rD))) ∧ r = [.val z0, .val (.ref 0), .val x, .val (.int n), .val (.tup (rows.map rD)), .val .non, .val (.ref l), .val (.int i), .val (.int b), .val (sD F), z10, z11, z12, z13]) ?_ ?_
    · simp
      refine (breach_ok (w := .non) hl (by omega) (by omega) hr hFb.symm hFs).mono fun v S9 ⟨hv, o1, o2⟩ => ?_
      subst hv
      have k9 := kp_of h8 o1 o2
      simp
      exact ⟨k9.hand, k9.get _ _ l0 hl⟩
    rintro _ S9 ⟨h9, hl, rfl⟩
    simp
    refine range1_wp ?_
    simp
    refine for_wp (I := fun zs r S' => ∃ z10 z11 z12 z13, HandOk S' 0 ∧ S'[l]? = some (bk n (.tup (rows.map rD))) ∧ r = [.val z0, .val (.ref 0), .val x, .val (.int n), .val (.tup (rows.map rD)), .val .non, .val (.ref l), .val (.int i), .val (.int b), .val (sD F), z10, z11, z12, z13]) (fun y ys r S' h => ?_) (fun r S' h => ?_) ⟨_, _, _, _, h9, hl, rfl⟩
    · obtain ⟨z10, z11, z12, z13, hS, hl, rfl⟩ := h
      refine ⟨trivial, _, by simp; rfl, ?_⟩
      refine seq_cut (fun r S2 => S2 = S' ∧ r = [.val z0, .val (.ref 0), .val x, .val (.int n), .val (.tup (rows.map rD)), .val .non, .val (.ref l), .val (.int i), .val (.int b), .val (sD F), .val y, .own (F.map lotD), z12, z13]) (by simp [sD, Src.get]) ?_
      rintro _ S2 ⟨rfl, rfl⟩
      refine seq_cut (fun r S => HandOk S 0 ∧ S[l]? = some (bk n (.tup (rows.map rD))) ∧ ∃ (F' : Strm) (z12 z13 : Sl), okS rows.length F' ∧ r = [.val z0, .val (.ref 0), .val x, .val (.int n), .val (.tup (rows.map rD)), .val .non, .val (.ref l), .val (.int i), .val (.int b), .val (sD F), .val y, .own (F'.map lotD), z12, z13]) ?_ ?_
      · simp
        refine range1_wp ?_
        simp
        refine draw_wp hS (by decide) (by decide) fun v S3 d3 v0 v1 => ?_
        simp [opAdd]
        refine ⟨by omega, by omega, ?_⟩
        refine for_wp (I := fun zs r S' => ∃ (F' : Strm) (z12 z13 : Sl), HandOk S' 0 ∧ S'[l]? = some (bk n (.tup (rows.map rD))) ∧ okS rows.length F' ∧ r = [.val z0, .val (.ref 0), .val x, .val (.int n), .val (.tup (rows.map rD)), .val .non, .val (.ref l), .val (.int i), .val (.int b), .val (sD F), .val y, .own (F'.map lotD), z12, z13]) (fun y2 ys r S' h => ?_) (fun r S' h => ?_) ⟨F, _, _, d3.1, by rw [d3.get l0]; exact hl, hFs, rfl⟩
        · obtain ⟨F', z12, z13, hS, hl, hF', rfl⟩ := h
          refine ⟨trivial, _, by simp; rfl, ?_⟩
          by_cases q : 0 < F'.length
          · simp [Src.get, q]
            have hFl' := hF'.1
            refine draw_wp hS (by omega) (by omega) fun v S4 d4 v0 v1 => ?_
            obtain ⟨v, rfl⟩ := Int.eq_ofNat_of_zero_le v0
            have hv : v < F'.length := by omega
            have la := lot_at (s := F') hv
            simp [Src.get, la, lotD]
            refine draw_wp d4.1 (by omega) (by omega) fun w S5 d5 w0 w1 => ?_
            obtain ⟨lt, hlt⟩ : ∃ lt, lt = lotA F' v := Exists.intro _ (Eq.refl _)
            have hlm : lt ∈ F' := by rw [hlt]; simp [lotA, hv]
            obtain ⟨lt1, lt2, lt3⟩ := hF'.2 lt hlm
            have l5 := asc_len (lo := 0) (hi := (rows.length : Int)) lt2 lt3 (by omega)
            have s1 : lt.length + 1 ≤ 16777216 := by omega
            have hio : intsOf (lt.map D.int ++ [.int w]) = some (lt ++ [w]) := by
              have := ints_id (lt ++ [w])
              rwa [List.map_append] at this
            have h64 : lt.length + 1 < 64 := by omega
            have pl : place F'.length (v : Int) = some v := by
              unfold place
              rw [if_pos (by omega), if_pos (by omega)]; rfl
            rw [← hlt]
            simp [s1, hio, h64, pl, Src.get, Src.isT, srcOf]
            refine ⟨d5.1, by rw [d5.get l0, d4.get l0]; exact hl, F'.set v (sortSet (lt ++ [w])), ⟨by simpa using hFl', fun k hk => ?_⟩, by rw [List.map_set]; rfl⟩
            rcases List.mem_or_eq_of_mem_set hk with h | h
            · exact hF'.2 k h
            · rw [h]
              have sl := set_len (l := lt ++ [w])
              simp at sl
              refine ⟨by omega, set_asc, fun i hi => ?_⟩
              rcases List.mem_append.mp (set_mem hi) with h | h
              · exact lt3 i h
              · simp at h; omega
          · simp [Src.get, q]
            exact ⟨hS, hl, F', hF', rfl⟩
        · obtain ⟨F', z12, z13, hS, hl, hF', rfl⟩ := h
          exact ⟨trivial, hS, hl, F', _, _, hF', rfl⟩
      rintro _ S3 ⟨h3, hl, F', z12, z13, hF', rfl⟩
      refine seq_cut (fun r S => HandOk S 0 ∧ S[l]? = some (bk n (.tup (rows.map rD))) ∧ r = [.val z0, .val (.ref 0), .val x, .val (.int n), .val (.tup (rows.map rD)), .val .non, .val (.ref l), .val (.int i), .val (.int b), .val (sD F), .val y, .own (F'.map lotD), z12, z13]) ?_ ?_
      · simp [Src.get]
        refine (breach_ok (w := brD n rows F') hl (by omega) (by omega) hr rfl hF').mono fun v S4 ⟨hv, o1, o2⟩ => ?_
        subst hv
        have k4 := kp_of h3 o1 o2
        have lb := lbreach (S := S4) (w := brD n rows F') (by omega) (by omega) hr rfl hF'.1
        obtain ⟨p1, p2⟩ := brD_pl n rows F'
        have sm := same_ok (S := S4) p1 (p2 S4)
        simp [sD] at lb
        simp [Src.get, lb, sm]
        exact ⟨k4.hand, k4.get _ _ l0 hl⟩
      rintro _ S4 ⟨h4, hl, rfl⟩
      simp
      refine (judged_wp (n := n) h4 (by omega) hl5).mono fun v S5 ⟨k5, hv⟩ => ?_
      subst hv
      simp
      exact ⟨k5.hand, k5.get _ _ l0 hl⟩
    · obtain ⟨z10, z11, z12, z13, hS, hl, rfl⟩ := h
      exact ⟨trivial, _, _, _, _, _, _, _, _, _, _, _, _, hS, rfl⟩
  · obtain ⟨z2, z3, z4, z5, z6, z7, z8, z9, z10, z11, z12, z13, hS, rfl⟩ := h
    refine ⟨trivial, ?_⟩
    simp
end L54

end
section
set_option Elab.async false
set_option linter.all false
set_option maxRecDepth 100000
set_option maxHeartbeats 0
namespace L54
open PySem PySem.Spec PyProof.Rows L2 Dn
abbrev R : PySem.W.OpenRow := PySem.W.OpenLaw.row PySem.Challenge.rw_exactbeats_k54_buckets_judged_and_breach
abbrev hk : PySem.W.Hook := hookT 4 fx fa fn (tl.map (·.1))
def ob (s : PySem.W.SharedT) : He.AlX := obsTT 4 fx fa fn (tl.map (·.1)) (HandSHeadRun.getT s)
theorem ob_eq (s : PySem.W.SharedT) : ob s = hk.obs s.abs := obsTT_eq (HandSHeadRun.getT_eq s)
def loose : List PySem.Str := (["is_integer", "is_within", "is_lot", "FabricError", "NoLine", "NoNumber", "BadBuckets", "NoStream", "MOST_BOTTOM", "MOST_BURST", "MOST_ROWS", "KINDS", "MOST_BEATS", "MOST_ASKED", "is_row", "Buckets", "check_line", "sent_by", "most_sent", "check_stream", "Sent", "breach_of", "breach", "_law_hand", "_law_draw", "_law_pick", "_law_same", "_law_rows", "_law_sent", "_law_is_int"] : List PySem.Str) ++ (["_law_deep", "_law_stream", "_law_thinned", "_law_breach", "_law_is_row", "_law_due", "_law_told", "_law_odd_rows", "_law_judged_right", "_law_long_right"] : List PySem.Str)
theorem run (w : World) : HandSHeadRun.RunEq R (PySem.W.view R.prog [44]) hk ob 3000 loose w := by
  intro os
  kernel_rfl
end L54
open PySem PySem.W PySem.Calls PyProof.Rows
theorem PySem.Challenge.cw_exactbeats_k54_buckets_judged_and_breach_holds : PySem.Challenge.rw_exactbeats_k54_buckets_judged_and_breach.Holds := by
  w_on; o_law
  refine HandSHeadRun.head_any (r := OpenLaw.row PySem.Challenge.rw_exactbeats_k54_buckets_judged_and_breach) (q := view (OpenLaw.row PySem.Challenge.rw_exactbeats_k54_buckets_judged_and_breach).prog [44]) (H := L54.hk) (ob := L54.ob) (M := 3000) (loose := L54.loose) (d := HandSHeadRun.topDef (OpenLaw.row PySem.Challenge.rw_exactbeats_k54_buckets_judged_and_breach).prog 44) (kwd := []) L54.ob_eq
    (by kernel_rfl) (fun s => by kernel_rfl) L54.run (by kernel_rfl) (by kernel_rfl) (by kernel_rfl) (by rfl) (by first | assumption | decide +kernel) (by decide +kernel) ⟨rfl, rfl, rfl, rfl, rfl, by decide +kernel⟩ ?hw ?hc
  case hw => w_witness2
  case hc =>
    refine Dn.walk_ofG (l := PySem.Challenge.rw_exactbeats_k54_buckets_judged_and_breach) (k := 8) (x := "_law_script") (tl := L54.tl) rfl (by kernel_rfl) ⟨rfl, by decide, by decide⟩ fun w mg f h K KX c G hmg0 => ?_
    have hmg : mg ("law" : PySem.Str) = some (.ref f) := by
      have e : (HandSHeadRun.topDef (OpenLaw.row PySem.Challenge.rw_exactbeats_k54_buckets_judged_and_breach).prog 44).name = ("law" : PySem.Str) := by kernel_rfl
      rw [← e]
      exact hmg0
    have fc := L54.fc_of KX G c
    have e := hmg.symm.trans (He.glo_ok KX G (c.fact 72 (f := .glo "law") rfl))
    cases e
    obtain ⟨fd, F⟩ := fc.f_law
    have b := L2.FunD.bindsA (ps := ["_law_script"]) F fun _ _ _ _ _ _ us hl => match us, hl with | [_], _ => rfl
    refine ⟨fd, L54.m_law, fun s v => b s [v] rfl, L54.law_pure, fun base _ _ _ tx => ?_⟩
    obtain ⟨fd2, F2, O2, _⟩ := L54.ok_law (P := (PySem.Challenge.rw_exactbeats_k54_buckets_judged_and_breach).prog) (w := w) (base := base) fc tx
    cases Dn.fd_one F F2
    exact O2

end
