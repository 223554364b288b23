import PyProof.Rows.All
import Wide.All
import OpenK.AllK
import Wide.FinOn
import KE.SortData
import HandS.ForMost
import HandS.ForExc
import HandS.TupAny
import HandS.TupLe
import HandS.TupMul
import HandS.Deep
import HandS.Zip
import HandS.IsInst
import HandS.Flow
import KE.KStateDown
import KE.DataFind
import HandS.Ends
import HandS.More
import HandS.WordsExc
import HandS.Defaults
import HandS.SetFor
import HandS.Head0
import HandS.Head1
import HandS.Head2
import HandS.HeadEnd
import HandS.HeadHook1
import HandS.HeadHook2
import HandS.Lambda
import HandS.EndTab
import HandS.ExcOwn
import HandS.ExcInit
import HandS.ExcIs
import HandS.ExcField
import HandS.TryMany
import HandS.Small
import PyProof.ExcBaseAll.ValueError
import HandS.HeadHook4
import KE.GoesMore
import KE.GoesEnum
import HandS.Style
import HandS.Dict
import HandS.DictTup
import KE.SortLaws
import KE.LtData
import PySem.Challenge.RW_exactbeats_k06_ideal_outputs_refused
section
set_option Elab.async false
set_option linter.all false
set_option maxRecDepth 100000
set_option maxHeartbeats 4000000
/-! What a small tongue of expressions and statements tells, over values told whole: no machine here. -/
namespace Dn
open PySem
/-! ### values, objects, slots -/
/-- a value told whole: tuples and unchanging lists by their items, other objects by their number -/
inductive D where
  | non | bl (b : Bool) | int (i : Int) | str (x : Str) | tup (xs : List D) | lst (xs : List D) | ref (l : Nat) | cls (x : Str) | fn (x : Str)
/-- a changing object -/
inductive SO where
  | lst (xs : List D) | ins (c : Str) (fs : List (Str × D)) | dct (t : Bool) (kvs : List (D × D))
abbrev Store := List SO
/-- a def's name: without a value, with one, or the only name of a changing list or dict -/
inductive Sl where
  | un | val (d : D) | own (xs : List D) | ownd (t : Bool) (kvs : List (D × D)) | exc (c : Str) (fs : List (Str × D)) | lam
abbrev Rho := List Sl
/-- an end of an expression -/
inductive Rs (a : Type) where
  | ok (x : a) (s : Store) | exc (c : Str) (fs : List (Str × D)) (s : Store) | bad
/-- an end of a statement -/
inductive Sr where
  | next (r : Rho) (s : Store) | ret (d : D) (r : Rho) (s : Store) | brk (r : Rho) (s : Store) | cont (r : Rho) (s : Store) | exc (c : Str) (fs : List (Str × D)) (r : Rho) (s : Store) | bad
def Rs.bind {a b : Type} (x : Rs a) (f : a → Store → Rs b) : Rs b := match x with
  | .ok v s => f v s
  | .exc c fs s => .exc c fs s
  | .bad => .bad
def Rs.toS {a : Type} (x : Rs a) (r : Rho) (f : a → Store → Sr) : Sr := match x with
  | .ok v s => f v s
  | .exc c fs s => .exc c fs r s
  | .bad => .bad
def Rs.ofO {a : Type} (o : Option a) (s : Store) : Rs a := match o with
  | some v => .ok v s
  | none => .bad
def Sr.bind (x : Sr) (f : Rho → Store → Sr) : Sr := match x with
  | .next r s => f r s
  | y => y
/-- an equation that is not told by computing -/
theorem nr {a : Sort u} {x y : a} (h : x = y) : x = y := h
@[simp] theorem Rs.bind_ok {a b : Type} (v : a) (s : Store) (f : a → Store → Rs b) : (Rs.ok v s).bind f = f v s := nr rfl
@[simp] theorem Rs.bind_exc {a b : Type} (c : Str) (fs : List (Str × D)) (s : Store) (f : a → Store → Rs b) : (Rs.exc c fs s : Rs a).bind f = .exc c fs s := nr rfl
@[simp] theorem Rs.bind_bad {a b : Type} (f : a → Store → Rs b) : (Rs.bad : Rs a).bind f = .bad := nr rfl
@[simp] theorem Rs.toS_ok {a : Type} (v : a) (s : Store) (r : Rho) (f : a → Store → Sr) : (Rs.ok v s).toS r f = f v s := nr rfl
@[simp] theorem Rs.toS_exc {a : Type} (c : Str) (fs : List (Str × D)) (s : Store) (r : Rho) (f : a → Store → Sr) : (Rs.exc c fs s : Rs a).toS r f = .exc c fs r s := nr rfl
@[simp] theorem Rs.toS_bad {a : Type} (r : Rho) (f : a → Store → Sr) : (Rs.bad : Rs a).toS r f = .bad := nr rfl
@[simp] theorem Rs.ofO_some {a : Type} (v : a) (s : Store) : Rs.ofO (some v) s = .ok v s := nr rfl
@[simp] theorem Rs.ofO_none {a : Type} (s : Store) : Rs.ofO (none : Option a) s = .bad := nr rfl
@[simp] theorem Sr.bind_next (r : Rho) (s : Store) (f : Rho → Store → Sr) : (Sr.next r s).bind f = f r s := nr rfl
@[simp] theorem Sr.bind_ret (d : D) (r : Rho) (s : Store) (f : Rho → Store → Sr) : (Sr.ret d r s).bind f = .ret d r s := nr rfl
@[simp] theorem Sr.bind_brk (r : Rho) (s : Store) (f : Rho → Store → Sr) : (Sr.brk r s).bind f = .brk r s := nr rfl
@[simp] theorem Sr.bind_cont (r : Rho) (s : Store) (f : Rho → Store → Sr) : (Sr.cont r s).bind f = .cont r s := nr rfl
@[simp] theorem Sr.bind_exc (c : Str) (fs : List (Str × D)) (r : Rho) (s : Store) (f : Rho → Store → Sr) : (Sr.exc c fs r s).bind f = .exc c fs r s := nr rfl
@[simp] theorem Sr.bind_bad (f : Rho → Store → Sr) : Sr.bad.bind f = .bad := nr rfl
abbrev DE := Rho → Store → Rs D
abbrev DT := Rho → Store → Rs Bool
abbrev DA := Rho → Store → Rs (List D)
abbrev DS := Rho → Store → Sr
/-- what a def is worth -/
abbrev Fn := List D → Store → Rs D
/-! ### data -/
mutual
/-- a value without objects, as the library's data (an object as None) -/
def D.P : D → PyData
  | .non => .none
  | .bl b => .bool b
  | .int i => .int i
  | .str x => .str x
  | .tup xs => .tuple (D.Ps xs)
  | .lst xs => .list (D.Ps xs)
  | .ref _ => .none
  | .cls _ => .none
  | .fn _ => .none
def D.Ps : List D → List PyData
  | [] => []
  | x :: xs => x.P :: D.Ps xs
end
mutual
/-- no objects in it, at most k deep, its texts of a size that is let -/
def D.pl : Nat → D → Bool
  | _, .non => true
  | _, .bl _ => true
  | _, .int _ => true
  | _, .str x => PyData.strOk x
  | 0, .tup _ => false
  | 0, .lst _ => false
  | k + 1, .tup xs => D.pls k xs
  | k + 1, .lst xs => D.pls k xs
  | _, .ref _ => false
  | _, .cls _ => false
  | _, .fn _ => false
def D.pls : Nat → List D → Bool
  | _, [] => true
  | k, x :: xs => D.pl k x && D.pls k xs
end
mutual
/-- == of data -/
def eqD : D → D → Bool
  | .non, .non => true
  | .bl a, .bl b => a == b
  | .bl a, .int j => (if a then 1 else 0) == j
  | .int i, .bl b => i == (if b then 1 else 0)
  | .int i, .int j => i == j
  | .str x, .str y => x == y
  | .tup xs, .tup ys => eqDs xs ys
  | .lst xs, .lst ys => eqDs xs ys
  | _, _ => false
def eqDs : List D → List D → Bool
  | [], [] => true
  | x :: xs, y :: ys => eqD x y && eqDs xs ys
  | _, _ => false
end
/-- a list's items, wherever they stand -/
def listOf (S : Store) : D → Option (List D)
  | .lst xs => some xs
  | .ref l => (match S[l]? with
    | some (.lst xs) => some xs
    | _ => none)
  | _ => none
/-- an object that is a list, told as one -/
def flatL (S : Store) (d : D) : D := match d with
  | .ref l => (match S[l]? with
    | some (.lst xs) => .lst xs
    | _ => .ref l)
  | d => d
/-! ### operators -/
def opAdd (S : Store) (x y : D) : Option D := match x, y with
  | .int i, .int j => some (.int (i + j))
  | .str a, .str b => if a.length + b.length ≤ sizeLine then some (.str (a ++ b)) else none
  | .tup xs, .tup ys => if xs.length + ys.length ≤ sizeLine then some (.tup (xs ++ ys)) else none
  | x, y => (match listOf S x, listOf S y with
    | some xs, some ys => if xs.length + ys.length ≤ sizeLine then some (.lst (xs ++ ys)) else none
    | _, _ => none)
def opSub (x y : D) : Option D := match x, y with
  | .int i, .int j => some (.int (i - j))
  | _, _ => none
/-- a factor that is small enough -/
def mulOk (i j : Int) : Bool := (decide (-(2 ^ 64) < i) && decide (i < 2 ^ 64)) || (decide (-(2 ^ 64) < j) && decide (j < 2 ^ 64))
def opMul (S : Store) (x y : D) : Option D := match x, y with
  | .int i, .int j => if mulOk i j then some (.int (i * j)) else none
  | .tup xs, .int k => if !xs.isEmpty && decide (2 ≤ k) && decide (k ≤ 1000) && decide (xs.length ≤ 1000) then some (.tup (List.replicate k.toNat xs).flatten) else none
  | x, .int k => (match listOf S x with
    | some xs => if decide (-(2 ^ 63) ≤ k) && decide (k < 2 ^ 63) && decide (xs.length * k.toNat ≤ sizeLine) then some (.lst (List.replicate k.toNat xs).flatten) else none
    | none => none)
  | _, _ => none
def opDiv (x y : D) : Option D := match x, y with
  | .int i, .int j => if decide (0 < j) && decide (j < 1073741824) then some (.int (i / j)) else none
  | _, _ => none
def opMod (x y : D) : Option D := match x, y with
  | .int i, .int j => if decide (0 < j) then some (.int (i % j)) else none
  | _, _ => none
def opPow (x y : D) : Option D := match x, y with
  | .int i, .int j => if decide (0 ≤ j) && decide (j ≤ 1000000) && decide (i.natAbs < 2 ^ 64) then some (.int (i ^ j.toNat)) else none
  | _, _ => none
def opNeg (x : D) : Option D := match x with
  | .int i => some (.int (-i))
  | _ => none
/-! ### comparisons: over values -/
def cmpEq (S : Store) (x y : D) : Option Bool := if D.pl 64 (flatL S x) && D.pl 64 (flatL S y) then some (eqD (flatL S x) (flatL S y)) else none
def cmpNe (S : Store) (x y : D) : Option Bool := if D.pl 64 (flatL S x) && D.pl 64 (flatL S y) then some (!eqD (flatL S x) (flatL S y)) else none
/-- the order of data that are alike -/
def ltD (x y : D) : Bool := PySem.W.dataLt x.P y.P
def ltOk (x y : D) : Bool := D.pl 64 x && D.pl 64 y && PySem.W.alike x.P y.P && (match x with
  | .int _ => true
  | .tup _ => true
  | .lst _ => true
  | .str _ => true
  | _ => false)
def cmpLt (x y : D) : Option Bool := if ltOk x y then some (ltD x y) else none
/-- of whole numbers -/
def cmpI (p : Int → Int → Bool) (x y : D) : Option Bool := match x, y with
  | .int i, .int j => some (p i j)
  | _, _ => none
abbrev iLt : Int → Int → Bool := fun i j => decide (i < j)
abbrev iLe : Int → Int → Bool := fun i j => decide (i ≤ j)
abbrev iGt : Int → Int → Bool := fun i j => decide (j < i)
abbrev iGe : Int → Int → Bool := fun i j => decide (j ≤ i)
def cmpIsN (x : D) : Option Bool := match x with
  | .non => some true
  | _ => some false
/-- x is True, x is False -/
def cmpIsB (b : Bool) (x : D) : Option Bool := match x with
  | .bl c => some (c == b)
  | _ => some false
/-- of truth values alone -/
def cmpIsT (b : Bool) (x : D) : Option Bool := match x with
  | .bl c => some (c == b)
  | _ => none
/-! ### expressions -/
def eC (d : D) : DE := fun _ S => .ok d S
def eVar (i : Nat) : DE := fun r S => match r[i]? with
  | some (.val d) => .ok d S
  | _ => .bad
def eOp (f : Store → D → D → Option D) (a b : DE) : DE := fun r S => (a r S).bind fun x S => (b r S).bind fun y S => Rs.ofO (f S x y) S
def eUn (f : D → Option D) (a : DE) : DE := fun r S => (a r S).bind fun x S => Rs.ofO (f x) S
/-- a comparison as a value -/
def eCmp (f : Store → D → D → Option Bool) (a b : DE) : DE := fun r S => (a r S).bind fun x S => (b r S).bind fun y S => Rs.ofO ((f S x y).map D.bl) S
def eCmp1 (f : D → Option Bool) (a : DE) : DE := fun r S => (a r S).bind fun x S => Rs.ofO ((f x).map D.bl) S
/-- a chain of two -/
def eChain (f g : Store → D → D → Option Bool) (a b c : DE) : DE := fun r S => (a r S).bind fun x S => (b r S).bind fun y S => (Rs.ofO (f S x y) S).bind fun k S =>
  if k then (c r S).bind fun z S => Rs.ofO ((g S y z).map D.bl) S else .ok (.bl false) S
/-- a value that is a truth value, as a test -/
def tOfB (a : DE) : DT := fun r S => (a r S).bind fun x S => match x with
  | .bl b => .ok b S
  | _ => .bad
def tNotD (a : DT) : DT := fun r S => (a r S).bind fun x S => .ok (!x) S
def tAndD (a b : DT) : DT := fun r S => (a r S).bind fun x S => if x then b r S else .ok false S
def tOrD (a b : DT) : DT := fun r S => (a r S).bind fun x S => if x then .ok true S else b r S
def eAnd (a b : DE) : DE := fun r S => (a r S).bind fun x S => match x with
  | .bl c => if c then b r S else .ok (.bl false) S
  | _ => .bad
def eOr (a b : DE) : DE := fun r S => (a r S).bind fun x S => match x with
  | .bl c => if c then .ok (.bl true) S else b r S
  | _ => .bad
def eNot (a : DE) : DE := fun r S => (a r S).bind fun x S => match x with
  | .bl c => .ok (.bl (!c)) S
  | _ => .bad
def eIf (t : DT) (a b : DE) : DE := fun r S => (t r S).bind fun x S => if x then a r S else b r S
def aNil : DA := fun _ S => .ok [] S
def aCons (a : DE) (b : DA) : DA := fun r S => (a r S).bind fun x S => (b r S).bind fun xs S => .ok (x :: xs) S
def eTup (a : DA) : DE := fun r S => (a r S).bind fun xs S => if xs.length ≤ sizeLine then .ok (.tup xs) S else .bad
def eLst (a : DA) : DE := fun r S => (a r S).bind fun xs S => if xs.length ≤ sizeLine then .ok (.lst xs) S else .bad
/-- a new list: one that stays, one that changes -/
def nLst (a : DA) : DA := fun r S => (a r S).bind fun xs S => if xs.length ≤ sizeLine then .ok xs S else .bad
def eFrz (a : DA) : DE := fun r S => (a r S).bind fun xs S => .ok (.lst xs) S
def eNew (a : DA) : DE := fun r S => (a r S).bind fun xs S => .ok (.ref S.length) (S ++ [.lst xs])
/-- a call of a def -/
def eCall (m : Fn) (a : DA) : DE := fun r S => (a r S).bind fun xs S => m xs S
/-! ### what is walked, measured, asked: lists and tuples as they stand -/
inductive Src where
  | cst (tup : Bool) (xs : List D) | own (i : Nat) | loc (l : Nat)
abbrev DL := Rho → Store → Rs Src
def Src.get (c : Src) (r : Rho) (S : Store) : Option (List D) := match c with
  | .cst _ xs => some xs
  | .own i => (match r[i]? with
    | some (.own xs) => some xs
    | _ => none)
  | .loc l => (match S[l]? with
    | some (.lst xs) => some xs
    | _ => none)
def srcOf (S : Store) (d : D) : Option Src := match d with
  | .tup xs => some (.cst true xs)
  | .lst xs => some (.cst false xs)
  | .ref l => (match S[l]? with
    | some (.lst _) => some (.loc l)
    | _ => none)
  | _ => none
def Src.isT : Src → Bool
  | .cst t _ => t
  | _ => false
def lE (a : DE) : DL := fun r S => (a r S).bind fun x S => Rs.ofO (srcOf S x) S
def lOwn (i : Nat) : DL := fun r S => match r[i]? with
  | some (.own _) => .ok (.own i) S
  | _ => .bad
/-- a built-in of one list or tuple -/
def eL1 (f : Bool → List D → Option D) (a : DL) : DE := fun r S => (a r S).bind fun c S => Rs.ofO ((c.get r S).bind (f c.isT)) S
def eLen : DL → DE := eL1 fun _ xs => some (.int xs.length)
def eTupOf : DL → DE := eL1 fun _ xs => some (.tup xs)
def eLstOf : DL → DE := eL1 fun _ xs => some (.lst xs)
/-- new lists from others -/
def nLstOf (a : DL) : DA := fun r S => (a r S).bind fun c S => Rs.ofO (c.get r S) S
/-- == of instances without an __eq__: the very same -/
def cmpSame (c : Str) (S : Store) (x y : D) : Option Bool := match x, y with
  | .ref l, .ref k => (match S[l]?, S[k]? with
    | some (.ins a _), some (.ins b _) => if a = c ∧ b = c then some (decide (l = k)) else none
    | _, _ => none)
  | _, _ => none
/-- xs.count(x), xs.index(x) -/
def eCount (b : DL) (a : DE) : DE := fun r S => (b r S).bind fun c S => (Rs.ofO (if c.isT then none else c.get r S) S).bind fun _ S => (a r S).bind fun x S => (Rs.ofO (c.get r S) S).bind fun xs S =>
  if D.pl 63 x && D.pls 63 xs then .ok (.int (xs.countP fun z => eqD z x : Nat)) S else .bad
def eIndex (b : DL) (a : DE) : DE := fun r S => (b r S).bind fun c S => (Rs.ofO (if c.isT then none else c.get r S) S).bind fun _ S => (a r S).bind fun x S => (Rs.ofO (c.get r S) S).bind fun xs S =>
  if D.pl 63 x && D.pls 63 xs && xs.any (fun z => eqD z x) then .ok (.int (xs.findIdx fun z => eqD z x : Nat)) S else .bad
def eLenS (a : DE) : DE := fun r S => (a r S).bind fun x S => match x with
  | .str z => if z.length ≤ sizeLine then .ok (.int z.length) S else .bad
  | _ => .bad
/-- the place i of n, from the end below 0 -/
def place (n : Nat) (i : Int) : Option Nat := if 0 ≤ i then (if i < n then some i.toNat else none) else if -(n : Int) ≤ i then some (i + n).toNat else none
def atD (xs : List D) (i : Int) : Option D := (place xs.length i).bind fun j => xs[j]?
def eIx (a : DL) (b : DE) : DE := fun r S => (a r S).bind fun c S => (b r S).bind fun y S => match y with
  | .int i => Rs.ofO ((c.get r S).bind fun xs => atD xs i) S
  | _ => .bad
/-- o.append(e) of a numbered list -/
def eAppR (o a : DE) : DE := fun r S => (o r S).bind fun p S => match p with
  | .ref l => (match S[l]? with
    | some (.lst _) => (a r S).bind fun x S => (match S[l]? with
      | some (.lst xs) => if xs.length < sizeLine then .ok .non (S.set l (.lst (xs ++ [x]))) else .bad
      | _ => .bad)
    | _ => .bad)
  | _ => .bad
/-- o.pop(k) of a numbered list -/
def ePopR (o k : DE) : DE := fun r S => (o r S).bind fun p S => match p with
  | .ref l => (match S[l]? with
    | some (.lst _) => (k r S).bind fun n S => (match n, S[l]? with
      | .int j, some (.lst xs) => (match place xs.length j with
        | some m => (match xs[m]? with
          | some y => .ok y (S.set l (.lst (xs.eraseIdx m)))
          | none => .bad)
        | none => .bad)
      | _, _ => .bad)
    | _ => .bad)
  | _ => .bad
def ePopR0 (o : DE) : DE := fun r S => (o r S).bind fun p S => match p with
  | .ref l => (match S[l]? with
    | some (.lst xs) => (match xs[xs.length - 1]? with
      | some y => .ok y (S.set l (.lst xs.dropLast))
      | none => .bad)
    | _ => .bad)
  | _ => .bad
/-- bounds of a slice -/
def cutAt (n d : Nat) : Option Int → Nat
  | none => d
  | some i => if i < 0 then (i + n).toNat else min i.toNat n
def cutD (xs : List D) (lo hi : Option Int) : List D := (xs.drop (cutAt xs.length 0 lo)).take (cutAt xs.length xs.length hi - cutAt xs.length 0 lo)
abbrev DO := Rho → Store → Rs (Option Int)
def oNone : DO := fun _ S => .ok none S
def oSome (a : DE) : DO := fun r S => (a r S).bind fun x S => match x with
  | .int i => .ok (some i) S
  | _ => .bad
def eSlice (a : DL) (lo hi : DO) : DE := fun r S => (a r S).bind fun c S => (lo r S).bind fun l S => (hi r S).bind fun u S => (Rs.ofO (c.get r S) S).bind fun xs S =>
  .ok (if c.isT then .tup (cutD xs l u) else .lst (cutD xs l u)) S
def boolsOf : List D → Option (List Bool)
  | [] => some []
  | .bl b :: r => (boolsOf r).map (b :: ·)
  | _ => none
def intsOf : List D → Option (List Int)
  | [] => some []
  | .int i :: r => (intsOf r).map (i :: ·)
  | _ => none
def eAll : DL → DE := eL1 fun t xs => if t then none else (boolsOf xs).map fun bs => .bl (bs.all id)
def eAny : DL → DE := eL1 fun t xs => if t then none else (boolsOf xs).map fun bs => .bl (bs.any id)
def eSum : DL → DE := eL1 fun t xs => if t then none else (intsOf xs).map fun ns => .int ns.sum
/-- Python's sorted of data that are alike -/
def sortD (xs : List D) : List D := xs.mergeSort (PySem.W.dataLe false D.P)
def aliker (xs : List D) : Bool := xs.all fun x => xs.all fun y => PySem.W.alike x.P y.P
def sortOk (xs : List D) : Bool := xs.all (D.pl 64) && aliker xs && (xs.all fun x => match x with
  | .tup (_ :: _) => true
  | .int _ => true
  | .str _ => true
  | _ => false) && ((xs.all fun x => match x with
  | .tup _ => true
  | _ => false) || (xs.all fun x => match x with
  | .tup _ => false
  | _ => true))
def nSorted (a : DL) : DA := fun r S => (a r S).bind fun c S => (Rs.ofO (c.get r S) S).bind fun xs S => if !c.isT && sortOk xs then .ok (sortD xs) S else .bad
def eSorted : DL → DE := eL1 fun t xs => if !t && sortOk xs then some (.lst (sortD xs)) else none
/-- x in a list or tuple -/
def eIn (neg : Bool) (a : DE) (b : DL) : DE := fun r S => (a r S).bind fun x S => (b r S).bind fun c S => (Rs.ofO (c.get r S) S).bind fun xs S =>
  if D.pl 63 x && D.pls 63 xs then .ok (.bl (if neg then !xs.any (fun z => eqD z x) else xs.any (fun z => eqD z x))) S else .bad
def eAbs (a : DE) : DE := fun r S => (a r S).bind fun x S => match x with
  | .int i => .ok (.int (if i < 0 then -i else i)) S
  | _ => .bad
def eInt (a : DE) : DE := fun r S => (a r S).bind fun x S => match x with
  | .int i => .ok (.int i) S
  | .bl b => .ok (.int (if b then 1 else 0)) S
  | _ => .bad
def eMin2 (a b : DE) : DE := fun r S => (a r S).bind fun x S => (b r S).bind fun y S => match x, y with
  | .int i, .int j => .ok (.int (if j < i then j else i)) S
  | _, _ => .bad
def eMax2 (a b : DE) : DE := fun r S => (a r S).bind fun x S => (b r S).bind fun y S => match x, y with
  | .int i, .int j => .ok (.int (if j > i then j else i)) S
  | _, _ => .bad
/-- the built-in classes of a value -/
def tyName (S : Store) (d : D) : Option String := match d with
  | .non => some "NoneType"
  | .bl _ => some "bool"
  | .int _ => some "int"
  | .str _ => some "str"
  | .tup _ => some "tuple"
  | .lst _ => some "list"
  | .ref l => (match S[l]? with
    | some (.lst _) => some "list"
    | some (.dct _ _) => some "dict"
    | _ => none)
  | .cls _ => none
  | .fn _ => none
def isTy (t : String) (n : String) : Bool := decide (t = n) || (decide (t = "bool") && decide (n = "int"))
def eIsTy (n : String) (a : DE) : DE := fun r S => (a r S).bind fun x S => match tyName S x with
  | some t => .ok (.bl (isTy t n)) S
  | none => .bad
/-- in order, each once -/
def insS (x : Int) : List Int → List Int
  | [] => [x]
  | y :: l => if x < y then x :: y :: l else if x = y then y :: l else y :: insS x l
def sortSet : List Int → List Int
  | [] => []
  | x :: l => insS x (sortSet l)
/-- sorted(set(xs)), whole numbers, fewer than 64 -/
def nSortSet (a : DL) : DA := fun r S => (a r S).bind fun c S => Rs.ofO (if c.isT then none else (c.get r S).bind fun xs => (intsOf xs).bind fun ns => if ns.length < 64 then some ((sortSet ns).map D.int) else none) S
/-! ### objects -/
def eFld (cs : List Str) (f : Str) (a : DE) : DE := fun r S => (a r S).bind fun x S => match x with
  | .ref l => (match S[l]? with
    | some (.ins c fs) => if c ∈ cs then Rs.ofO (fs.lookup f) S else .bad
    | _ => .bad)
  | _ => .bad
def eMeth (c m : Str) (g : Fn) (o : DE) (a : DA) : DE := fun r S => (o r S).bind fun x S => match x with
  | .ref l => (match S[l]? with
    | some (.ins k fs) => if k = c ∧ fs.lookup m = none then (a r S).bind fun xs S => g (x :: xs) S else .bad
    | _ => .bad)
  | _ => .bad
/-- a new instance -/
def eMake (c : Str) (g : Fn) (a : DA) : DE := fun r S => (a r S).bind fun xs S => (g (.ref S.length :: xs) (S ++ [.ins c []])).bind fun v S2 => match v with
  | .non => .ok (.ref S.length) S2
  | _ => .bad
def putFD (f : Str) (v : D) : List (Str × D) → List (Str × D)
  | [] => [(f, v)]
  | (g, x) :: r => if g = f then (g, v) :: r else (g, x) :: putFD f v r
/-! ### comprehensions -/
abbrev DG := D → Rho → Store → Option Rho
def gNameD (i : Nat) : DG := fun v r _ => if i < r.length then some (r.set i (.val v)) else none
def gsNil : List D → Rho → Store → Option Rho := fun vs r _ => match vs with
  | [] => some r
  | _ => none
def gsCons (g : DG) (h : List D → Rho → Store → Option Rho) : List D → Rho → Store → Option Rho := fun vs r S => match vs with
  | v :: vs => (g v r S).bind fun r' => h vs r' S
  | [] => none
def gTupD (n : Nat) (h : List D → Rho → Store → Option Rho) : DG := fun v r S => match v with
  | .tup xs => if xs.length = n then h xs r S else none
  | _ => none
def wipeD (r : Rho) : List Nat → Rho
  | [] => r
  | v :: vs => (wipeD r vs).set v .un
def tYesD : DT := fun _ S => .ok true S
/-- no error leaves a comprehension -/
def noX {a : Type} (x : Rs a) : Rs a := match x with
  | .exc _ _ _ => .bad
  | y => y
@[simp] theorem noX_ok {a : Type} (v : a) (s : Store) : noX (.ok v s) = .ok v s := nr rfl
@[simp] theorem noX_bad {a : Type} : noX (.bad : Rs a) = .bad := nr rfl
@[simp] theorem noX_exc {a : Type} (c : Str) (fs : List (Str × D)) (s : Store) : noX (.exc c fs s : Rs a) = .bad := nr rfl
/-- what is walked: its items, and what must stay as it is while it is walked -/
structure Wk where
  xs : List D
  ok : Store → Prop
abbrev DI := Rho → Store → Rs Wk
open scoped Classical in
noncomputable def lcGo (ok : Store → Prop) (g : DG) (t : DT) (e : DE) (r : Rho) : List D → Store → Rs (List D)
  | [], S => if ok S then .ok [] S else .bad
  | x :: xs, S => if ok S then (match g x r S with
    | none => .bad
    | some r' => (noX (t r' S)).bind fun b S => if b then (noX (e r' S)).bind fun y S => (lcGo ok g t e r xs S).bind fun ys S => .ok (y :: ys) S else lcGo ok g t e r xs S) else .bad
noncomputable def nLc (its : DI) (g : DG) (t : DT) (e : DE) (vs : List Nat) : DA := fun r S => (its r S).bind fun w S => lcGo w.ok g t e (wipeD r vs) w.xs S
/-! ### what a loop or a comprehension walks, as lists of items -/
def rangeD (lo hi : Int) : List D := (List.range (hi - lo).toNat).map fun (k : Nat) => D.int (lo + (k : Int))
def rOk (i : Int) : Bool := decide (-(2 ^ 62) ≤ i) && decide (i < 2 ^ 62)
def wkS (xs : List D) : Wk := ⟨xs, fun _ => True⟩
def iRange1 (a : DE) : DI := fun r S => (a r S).bind fun x S => match x with
  | .int j => if rOk j && decide (j ≤ sizeLine) then .ok (wkS (rangeD 0 j)) S else .bad
  | _ => .bad
def iRange2 (a b : DE) : DI := fun r S => (a r S).bind fun x S => (b r S).bind fun y S => match x, y with
  | .int i, .int j => if rOk i && rOk j && decide (j - i ≤ sizeLine) then .ok (wkS (rangeD i j)) S else .bad
  | _, _ => .bad
/-- a list or a tuple, walked -/
def wkOf (S : Store) (d : D) : Option Wk := match d with
  | .tup xs => some (wkS xs)
  | .lst xs => some (wkS xs)
  | .ref l => (match S[l]? with
    | some (.lst xs) => some ⟨xs, fun S => S[l]? = some (.lst xs)⟩
    | _ => none)
  | _ => none
def wkL (S : Store) (d : D) : Option Wk := match d with
  | .tup _ => none
  | d => wkOf S d
def iSeqD (a : DE) : DI := fun r S => (a r S).bind fun x S => Rs.ofO (wkOf S x) S
def enumD (k : Nat) : List D → List D
  | [] => []
  | x :: xs => .tup [.int k, x] :: enumD (k + 1) xs
def iEnumD (a : DE) : DI := fun r S => (a r S).bind fun x S => match wkL S x with
  | some w => if w.xs.length ≤ sizeLine then .ok ⟨enumD 0 w.xs, w.ok⟩ S else .bad
  | none => .bad
/-- enumerate of a list or a tuple -/
def iEnumAD (a : DE) : DI := fun r S => (a r S).bind fun x S => Rs.ofO ((wkOf S x).map fun w => ⟨enumD 0 w.xs, w.ok⟩) S
def zipD : List D → List D → List D
  | x :: xs, y :: ys => .tup [x, y] :: zipD xs ys
  | _, _ => []
def wkZ (S : Store) (x y : D) : Option Wk := match x, y with
  | .tup xs, .tup ys => some (wkS (zipD xs ys))
  | x, y => (wkL S x).bind fun w => (wkL S y).map fun v => ⟨zipD w.xs v.xs, fun S => w.ok S ∧ v.ok S⟩
def iZipD (a b : DE) : DI := fun r S => (a r S).bind fun x S => (b r S).bind fun y S => match wkZ S x y with
  | some w => if w.xs.length ≤ sizeLine then .ok w S else .bad
  | none => .bad
/-! ### statements -/
def sNext : DS := fun r S => .next r S
def sSeq (a b : DS) : DS := fun r S => (a r S).bind b
def sSet (i : Nat) (a : DE) : DS := fun r S => (a r S).toS r fun x S => if i < r.length then .next (r.set i (.val x)) S else .bad
/-- name = a list of its own -/
def sSetOwn (i : Nat) (a : DA) : DS := fun r S => (a r S).toS r fun xs S => if i < r.length then .next (r.set i (.own xs)) S else .bad
def sAsg (a : DE) (g : DG) : DS := fun r S => (a r S).toS r fun x S => match g x r S with
  | some r' => .next r' S
  | none => .bad
/-- a, b = x, y -/
def sPar (i j : Nat) (a b : DE) : DS := fun r S => (a r S).toS r fun x S => (b r S).toS r fun y S => if i < r.length ∧ j < r.length then .next ((r.set i (.val x)).set j (.val y)) S else .bad
def sDrop (a : DE) : DS := fun r S => (a r S).toS r fun _ S => .next r S
def sRet (a : DE) : DS := fun r S => (a r S).toS r fun x S => .ret x r S
/-- return of a list of its own: it changes no more -/
def noLam (r : Rho) : Bool := r.all fun
  | .lam => false
  | _ => true
def sRetOwn (i : Nat) : DS := fun r S => match r[i]? with
  | some (.own xs) => if noLam r then .ret (.lst xs) (r.set i .un) S else .bad
  | _ => .bad
/-- from here on the list changes no more -/
def sFrz (i : Nat) : DS := fun r S => match r[i]? with
  | some (.own xs) => if noLam r then .next (r.set i (.val (.lst xs))) S else .bad
  | _ => .bad
def sRetN : DS := fun r S => .ret .non r S
def sIf (t : DT) (a b : DS) : DS := fun r S => (t r S).toS r fun x S => if x then a r S else b r S
def sBrk : DS := fun r S => .brk r S
def sCnt : DS := fun r S => .cont r S
def sBad : DS := fun _ _ => .bad
/-- xs.append(e), xs a list of its own -/
def sApp (i : Nat) (a : DE) : DS := fun r S => match r[i]? with
  | some (.own _) => (a r S).toS r fun x S => match r[i]? with
    | some (.own xs) => if xs.length < sizeLine then .next (r.set i (.own (xs ++ [x]))) S else .bad
    | _ => .bad
  | _ => .bad
/-- o[k] = e, o an object that is a list -/
def sPutR (o k : DE) (a : DE) : DS := fun r S => (a r S).toS r fun x S => (o r S).toS r fun p S => (k r S).toS r fun n S => match p, n with
  | .ref l, .int j => (match S[l]? with
    | some (.lst xs) => (match place xs.length j with
      | some m => .next r (S.set l (.lst (xs.set m x)))
      | none => .bad)
    | _ => .bad)
  | _, _ => .bad
/-- xs[k] = e, xs a list of its own -/
def sPut (i : Nat) (k : DE) (a : DE) : DS := fun r S => (a r S).toS r fun x S => match r[i]? with
  | some (.own _) => (k r S).toS r fun n S => (match n, r[i]? with
    | .int j, some (.own xs) => (match place xs.length j with
      | some m => .next (r.set i (.own (xs.set m x))) S
      | none => .bad)
    | _, _ => .bad)
  | _ => .bad
/-- o.f = e -/
def sFldD (cs : List Str) (f : Str) (o : DE) (a : DE) : DS := fun r S => (a r S).toS r fun x S => (o r S).toS r fun p S => match p with
  | .ref l => (match S[l]? with
    | some (.ins c fs) => if c ∈ cs ∧ fs.length < 1000 then .next r (S.set l (.ins c (putFD f x fs))) else .bad
    | _ => .bad)
  | _ => .bad
def sAugI (i : Nat) (f : Int → Int → Int) (a : DE) : DS := fun r S => match r[i]? with
  | some (.val (.int x)) => (a r S).toS r fun y S => (match y with
    | .int j => .next (r.set i (.val (.int (f x j)))) S
    | _ => .bad)
  | _ => .bad
open scoped Classical in
/-- the turns of a loop -/
noncomputable def forGo (ok : Store → Prop) (g : DG) (b : DS) : List D → Rho → Store → Sr
  | [], r, S => if ok S then .next r S else .bad
  | x :: xs, r, S => if ok S then (match g x r S with
    | none => .bad
    | some r' => (match b r' S with
      | .next r2 S2 => forGo ok g b xs r2 S2
      | .cont r2 S2 => forGo ok g b xs r2 S2
      | .brk r2 S2 => .next r2 S2
      | .ret d r2 S2 => .ret d r2 S2
      | .exc c fs r2 S2 => .exc c fs r2 S2
      | .bad => .bad)) else .bad
noncomputable def sFor (its : DI) (g : DG) (b : DS) : DS := fun r S => (its r S).toS r fun w S => forGo w.ok g b w.xs r S
def whileGo (t : DT) (b : DS) : Nat → Rho → Store → Sr
  | 0, _, _ => .bad
  | n + 1, r, S => (t r S).toS r fun c S => if c then (match b r S with
      | .next r2 S2 => whileGo t b n r2 S2
      | .cont r2 S2 => whileGo t b n r2 S2
      | .brk r2 S2 => .next r2 S2
      | .ret d r2 S2 => .ret d r2 S2
      | .exc c fs r2 S2 => .exc c fs r2 S2
      | .bad => .bad) else .next r S
def sWhile (n : Nat) (t : DT) (b : DS) : DS := whileGo t b n
/-! ### a def -/
def fnD (np n : Nat) (b : DS) : Fn := fun ds S => if ds.length = np then (match b (ds.map Sl.val ++ List.replicate (n - np) Sl.un) S with
  | .next _ S => .ok .non S
  | .ret d _ S => .ok d S
  | .exc c fs _ S => .exc c fs S
  | _ => .bad) else .bad
end Dn

end
section
set_option Elab.async false
set_option linter.all false
set_option maxRecDepth 100000
set_option maxHeartbeats 4000000
/-! How the values told whole stand in the layer's heap. -/
namespace L2
open PySem PySem.Spec PyProof.Rows
section
variable {X : Cx} {e : Expr}
theorem PE.dimp {t t' : TE} (h : PE X e t) (k : ∀ s H Q, t' s H Q → t s H Q) : PE X e t' := ⟨fun pins st s H Q I q => h.run pins st s H Q I (k s H Q q)⟩
theorem PT.dimp {t t' : TT} (h : PT X e t) (k : ∀ s H Q, t' s H Q → t s H Q) : PT X e t' := ⟨fun pins st s H Q I q => h.run pins st s H Q I (k s H Q q)⟩
theorem PA.dimp {es : List Expr} {t t' : TA} (h : PA X es t) (k : ∀ s H Q, t' s H Q → t s H Q) : PA X es t' := ⟨fun pos pins st s H Q I q => h.run pos pins st s H Q I (k s H Q q)⟩
theorem PS.dimp {st : Stmt} {t t' : TS} (h : PS X st t) (k : ∀ D s H, t' D s H → t D s H) : PS X st t' := ⟨fun pins z s H D I q => h.run pins z s H D I (k D s H q)⟩
theorem PSs.dimp {st : List Stmt} {t t' : TS} (h : PSs X st t) (k : ∀ D s H, t' D s H → t D s H) : PSs X st t' := ⟨fun pins z s H D I q => h.run pins z s H D I (k D s H q)⟩
end
end L2
namespace Dn
open PySem PySem.Spec PyProof.Rows L2
/-- where the changing objects, the tuples, the unchanging lists stand -/
structure Mp where
  loc : Nat → Option Addr
  tup : Addr → Option (List V)
  lst : Addr → Option (List V)
/-- the text's own part; lam: the lambda in hand, the state in which the def got it -/
structure Gx where
  K : PySem.W.Frag
  mg : Str → Option Value
  T : List (Addr × Str)
  pn : List (Addr × Obj)
  lam : Option (Addr × Mp × Hp)
abbrev noHp : Hp := fun _ => none
mutual
def RelD (G : Gx) (M : Mp) : D → V → Prop
  | .non, v => v = .non
  | .bl b, v => v = .bl b
  | .int i, v => v = .int i
  | .str x, v => v = .str x
  | .tup ds, v => ∃ a vs, v = .ref a ∧ (M.tup a = some vs ∨ SqT G.K noHp a vs) ∧ RelDs G M ds vs
  | .lst ds, v => ∃ a vs, v = .ref a ∧ (M.lst a = some vs ∨ SqL G.K noHp a vs) ∧ RelDs G M ds vs
  | .ref l, v => ∃ a, v = .ref a ∧ M.loc l = some a
  | .cls x, v => ∃ a, v = .ref a ∧ G.mg x = some (.ref a)
  | .fn x, v => ∃ a, v = .ref a ∧ G.mg x = some (.ref a)
def RelDs (G : Gx) (M : Mp) : List D → List V → Prop
  | [], vs => vs = []
  | d :: ds, vs => ∃ v r, vs = v :: r ∧ RelD G M d v ∧ RelDs G M ds r
end
def RelFs (G : Gx) (M : Mp) : List (Str × D) → List (Str × V) → Prop
  | [], vs => vs = []
  | (f, d) :: ds, vs => ∃ v r, vs = (f, v) :: r ∧ RelD G M d v ∧ RelFs G M ds r
/-- a key of a dict: a number or a text; a tuple of these -/
def keyOf : D → Option Key
  | .int i => some (.inl i)
  | .str x => some (.inr x)
  | _ => none
def keysOf : D → Option (List Key)
  | .tup ds => ds.mapM keyOf
  | _ => none
/-- a dict's entries -/
def RelKV {κ : Type} (G : Gx) (M : Mp) (f : D → Option κ) : List (D × D) → List (κ × V) → Prop
  | [], vs => vs = []
  | (k, d) :: r, vs => ∃ c v s, vs = (c, v) :: s ∧ f k = some c ∧ RelD G M d v ∧ RelKV G M f r s
theorem RelKV.map {κ : Type} {G G' : Gx} {M M' : Mp} {f : D → Option κ} (h : ∀ d v, RelD G M d v → RelD G' M' d v) : ∀ {kvs : List (D × D)} {vs : List (κ × V)}, RelKV G M f kvs vs → RelKV G' M' f kvs vs
  | [], _, r => r
  | (k, d) :: kvs, _, r => by
    obtain ⟨c, v, s, rfl, h1, h2, h3⟩ := r
    exact ⟨c, v, s, rfl, h1, h d v h2, RelKV.map h h3⟩
/-- a dict as it stands -/
def DctR (G : Gx) (M : Mp) (t : Bool) (kvs : List (D × D)) (o : Option HO) : Prop := (t = false ∧ ∃ vs, o = some (.dK vs) ∧ RelKV G M keyOf kvs vs) ∨ (t = true ∧ ∃ vs, o = some (.dT vs) ∧ RelKV G M keysOf kvs vs)
theorem DctR.map {G G' : Gx} {M M' : Mp} {t : Bool} {kvs : List (D × D)} {o : Option HO} (h : ∀ d v, RelD G M d v → RelD G' M' d v) (r : DctR G M t kvs o) : DctR G' M' t kvs o := by
  rcases r with ⟨e, vs, h1, h2⟩ | ⟨e, vs, h1, h2⟩
  · exact .inl ⟨e, vs, h1, h2.map h⟩
  · exact .inr ⟨e, vs, h1, h2.map h⟩
theorem DctR.not {G : Gx} {M : Mp} {t : Bool} {kvs : List (D × D)} (r : DctR G M t kvs none) : False := by
  rcases r with ⟨_, _, h, _⟩ | ⟨_, _, h, _⟩ <;> cases h
def ObjR (G : Gx) (M : Mp) : SO → Option HO → Prop
  | .lst ds, o => ∃ vs, o = some (.lst vs) ∧ RelDs G M ds vs
  | .ins c fs, o => ∃ C dx vfs, o = some (.ins C dx vfs) ∧ G.mg c = some (.ref C) ∧ RelFs G M fs vfs
  | .dct t kvs, o => DctR G M t kvs o
structure RelH (G : Gx) (M : Mp) (S : Store) (H : Hp) : Prop where
  obj : ∀ (l : Nat) (o : SO), S[l]? = some o → ∃ a, M.loc l = some a ∧ ObjR G M o (H a)
  dom : ∀ l a, M.loc l = some a → l < S.length
  inj : ∀ l k a, M.loc l = some a → M.loc k = some a → l = k
  tup : ∀ a vs, M.tup a = some vs → H a = some (.tup vs)
  lst : ∀ a vs, M.lst a = some vs → Rd H a (.lst vs)
  apt : ∀ a vs l, M.lst a = some vs → M.loc l ≠ some a
  tabs : LamX.Tabs G.T H
theorem RelH.sq {G : Gx} {M : Mp} {S : Store} {H : Hp} {a : Addr} {vs : List V} (rh : RelH G M S H) (h : M.lst a = some vs ∨ SqL G.K noHp a vs) : SqL G.K H a vs := by
  rcases h with h | h
  · exact .inl (rh.lst a vs h)
  · rcases h with z | z
    · rcases z with z | ⟨_, z⟩ <;> cases z
    · exact .inr z
/-- what may be there further on -/
structure Ext (M : Mp) (H : Hp) (M' : Mp) (H' : Hp) : Prop where
  loc : ∀ l a, M.loc l = some a → M'.loc l = some a
  tup : ∀ a vs, M.tup a = some vs → M'.tup a = some vs
  lst : ∀ a vs, M.lst a = some vs → M'.lst a = some vs
  new : ∀ l a, M'.loc l = some a → M.loc l = some a ∨ H a = none
  newl : ∀ a vs, M'.lst a = some vs → M.lst a = some vs ∨ H a = none
  keep : ∀ a o, H a = some o → (∀ l, M.loc l ≠ some a) → (∀ ps, o ≠ .tbl ps) → H' a = some o
  there : ∀ a o, H a = some o → ∃ o', H' a = some o'
theorem Ext.refl {M : Mp} {H : Hp} : Ext M H M H := ⟨fun _ _ h => h, fun _ _ h => h, fun _ _ h => h, fun _ _ h => .inl h, fun _ _ h => .inl h, fun _ _ h _ _ => h, fun _ o h => ⟨o, h⟩⟩
theorem Ext.trans {M M1 M2 : Mp} {H H1 H2 : Hp} (a : Ext M H M1 H1) (b : Ext M1 H1 M2 H2) : Ext M H M2 H2 where
  loc := fun l x h => b.loc l x (a.loc l x h)
  tup := fun l x h => b.tup l x (a.tup l x h)
  lst := fun l x h => b.lst l x (a.lst l x h)
  new := fun l x h => by
    rcases b.new l x h with q | q
    · exact a.new l x q
    · refine .inr ?_
      cases e : H x with
      | none => rfl
      | some o =>
        obtain ⟨o', e'⟩ := a.there x o e
        rw [q] at e'; cases e'
  newl := fun l x h => by
    rcases b.newl l x h with q | q
    · exact a.newl l x q
    · refine .inr ?_
      cases e : H l with
      | none => rfl
      | some o =>
        obtain ⟨o', e'⟩ := a.there l o e
        rw [q] at e'; cases e'
  keep := fun x o h n t => b.keep x o (a.keep x o h n t) (fun l q => by
    rcases a.new l x q with z | z
    · exact n l z
    · rw [h] at z; cases z) t
  there := fun x o h => by
    obtain ⟨o', h'⟩ := a.there x o h
    exact b.there x o' h'
section
variable {G : Gx} {M M' : Mp} {H H' : Hp}
mutual
theorem RelD.mono (e : Ext M H M' H') : ∀ {d : D} {v : V}, RelD G M d v → RelD G M' d v
  | .non, _, h => h
  | .bl _, _, h => h
  | .int _, _, h => h
  | .str _, _, h => h
  | .tup ds, _, h => by
    obtain ⟨a, vs, rfl, h1, h2⟩ := h
    exact ⟨a, vs, rfl, h1.imp (e.tup a vs) id, RelDs.mono e h2⟩
  | .lst ds, _, h => by
    obtain ⟨a, vs, rfl, h1, h2⟩ := h
    exact ⟨a, vs, rfl, h1.imp (e.lst a vs) id, RelDs.mono e h2⟩
  | .ref l, _, h => by
    obtain ⟨a, rfl, h1⟩ := h
    exact ⟨a, rfl, e.loc l a h1⟩
  | .cls _, _, h => h
  | .fn _, _, h => h
theorem RelDs.mono (e : Ext M H M' H') : ∀ {ds : List D} {vs : List V}, RelDs G M ds vs → RelDs G M' ds vs
  | [], _, h => h
  | d :: ds, _, h => by
    obtain ⟨v, r, rfl, h1, h2⟩ := h
    exact ⟨v, r, rfl, RelD.mono e h1, RelDs.mono e h2⟩
end
theorem RelFs.mono (e : Ext M H M' H') : ∀ {ds : List (Str × D)} {vs : List (Str × V)}, RelFs G M ds vs → RelFs G M' ds vs
  | [], _, h => h
  | (f, d) :: ds, _, h => by
    obtain ⟨v, r, rfl, h1, h2⟩ := h
    exact ⟨v, r, rfl, h1.mono e, RelFs.mono e h2⟩
theorem ObjR.mono (e : Ext M H M' H') {o : SO} {x : Option HO} (h : ObjR G M o x) : ObjR G M' o x := by
  cases o with
  | lst ds => obtain ⟨vs, h1, h2⟩ := h; exact ⟨vs, h1, h2.mono e⟩
  | ins c fs => obtain ⟨C, dx, vfs, h1, h2, h3⟩ := h; exact ⟨C, dx, vfs, h1, h2, h3.mono e⟩
  | dct _ _ => exact DctR.map (fun _ _ q => q.mono e) h
theorem RelDs.len : ∀ {ds : List D} {vs : List V}, RelDs G M ds vs → ds.length = vs.length
  | [], _, h => by cases (show _ = [] from h); rfl
  | d :: ds, _, h => by
    obtain ⟨v, r, rfl, h1, h2⟩ := h
    simp only [List.length_cons]
    rw [RelDs.len h2]
theorem RelDs.cons {d : D} {ds : List D} {v : V} {vs : List V} (h : RelD G M d v) (t : RelDs G M ds vs) : RelDs G M (d :: ds) (v :: vs) := ⟨v, vs, rfl, h, t⟩
theorem RelDs.nil : RelDs G M [] [] := rfl
theorem RelDs.append : ∀ {ds es : List D} {vs ws : List V}, RelDs G M ds vs → RelDs G M es ws → RelDs G M (ds ++ es) (vs ++ ws)
  | [], _, _, _, h, k => by cases (show _ = [] from h); exact k
  | d :: ds, _, _, _, h, k => by
    obtain ⟨v, r, rfl, h1, h2⟩ := h
    exact ⟨v, r ++ _, rfl, h1, RelDs.append h2 k⟩
theorem RelDs.get : ∀ {ds : List D} {vs : List V} {i : Nat} {d : D}, RelDs G M ds vs → ds[i]? = some d → ∃ v, vs[i]? = some v ∧ RelD G M d v
  | [], _, _, _, _, e => by simp at e
  | d :: ds, _, 0, x, h, e => by
    obtain ⟨v, r, rfl, h1, h2⟩ := h
    simp at e; subst e
    exact ⟨v, rfl, h1⟩
  | d :: ds, _, i + 1, x, h, e => by
    obtain ⟨v, r, rfl, h1, h2⟩ := h
    obtain ⟨w, e1, e2⟩ := RelDs.get (i := i) h2 (by simpa using e)
    exact ⟨w, by simpa using e1, e2⟩
theorem RelDs.getV : ∀ {ds : List D} {vs : List V} {i : Nat} {v : V}, RelDs G M ds vs → vs[i]? = some v → ∃ d, ds[i]? = some d ∧ RelD G M d v
  | [], _, _, _, h, e => by cases (show _ = [] from h); simp at e
  | d :: ds, _, 0, x, h, e => by
    obtain ⟨v, r, rfl, h1, h2⟩ := h
    simp at e; subst e
    exact ⟨d, rfl, h1⟩
  | d :: ds, _, i + 1, x, h, e => by
    obtain ⟨v, r, rfl, h1, h2⟩ := h
    obtain ⟨w, e1, e2⟩ := RelDs.getV (i := i) h2 (by simpa using e)
    exact ⟨w, by simpa using e1, e2⟩
theorem RelDs.set : ∀ {ds : List D} {vs : List V} (i : Nat) {d : D} {v : V}, RelDs G M ds vs → RelD G M d v → RelDs G M (ds.set i d) (vs.set i v)
  | [], _, _, _, _, h, _ => by cases (show _ = [] from h); exact RelDs.nil
  | d :: ds, _, 0, x, y, h, k => by
    obtain ⟨v, r, rfl, h1, h2⟩ := h
    exact ⟨y, r, rfl, k, h2⟩
  | d :: ds, _, i + 1, x, y, h, k => by
    obtain ⟨v, r, rfl, h1, h2⟩ := h
    exact ⟨v, r.set i y, rfl, h1, RelDs.set i h2 k⟩
theorem RelDs.drop : ∀ {ds : List D} {vs : List V} (n : Nat), RelDs G M ds vs → RelDs G M (ds.drop n) (vs.drop n)
  | _, _, 0, h => h
  | [], _, n + 1, h => by cases (show _ = [] from h); exact RelDs.nil
  | d :: ds, _, n + 1, h => by
    obtain ⟨v, r, rfl, h1, h2⟩ := h
    exact RelDs.drop n h2
theorem RelDs.take : ∀ {ds : List D} {vs : List V} (n : Nat), RelDs G M ds vs → RelDs G M (ds.take n) (vs.take n)
  | _, _, 0, h => by simp only [List.take_zero]; exact RelDs.nil
  | [], _, n + 1, h => by cases (show _ = [] from h); exact RelDs.nil
  | d :: ds, _, n + 1, h => by
    obtain ⟨v, r, rfl, h1, h2⟩ := h
    exact ⟨v, _, rfl, h1, RelDs.take n h2⟩
theorem RelDs.repl {ds : List D} {vs : List V} (h : RelDs G M ds vs) : ∀ n : Nat, RelDs G M (List.replicate n ds).flatten (List.replicate n vs).flatten
  | 0 => by simp only [List.replicate_zero, List.flatten_nil]; exact RelDs.nil
  | n + 1 => by
    simp only [List.replicate_succ, List.flatten_cons]
    exact h.append (RelDs.repl h n)
theorem RelFs.lookup : ∀ {fs : List (Str × D)} {vs : List (Str × V)} {f : Str} {d : D}, RelFs G M fs vs → fs.lookup f = some d → ∃ v, vs.lookup f = some v ∧ RelD G M d v
  | [], _, _, _, _, e => by simp at e
  | (g, d) :: fs, _, f, x, h, e => by
    obtain ⟨v, r, rfl, h1, h2⟩ := h
    rw [List.lookup_cons] at e ⊢
    cases q : f == g with
    | true => rw [q] at e; cases e; exact ⟨v, rfl, h1⟩
    | false =>
      rw [q] at e
      exact RelFs.lookup h2 e
theorem RelFs.lookupN : ∀ {fs : List (Str × D)} {vs : List (Str × V)} {f : Str}, RelFs G M fs vs → fs.lookup f = none → vs.lookup f = none
  | [], _, _, h, _ => by cases (show _ = [] from h); rfl
  | (g, d) :: fs, _, f, h, e => by
    obtain ⟨v, r, rfl, h1, h2⟩ := h
    rw [List.lookup_cons] at e ⊢
    cases q : f == g with
    | true => rw [q] at e; cases e
    | false =>
      rw [q] at e
      exact RelFs.lookupN h2 e
theorem RelFs.len : ∀ {fs : List (Str × D)} {vs : List (Str × V)}, RelFs G M fs vs → fs.length = vs.length
  | [], _, h => by cases (show _ = [] from h); rfl
  | (_, d) :: ds, _, h => by
    obtain ⟨v, r, rfl, h1, h2⟩ := h
    simp only [List.length_cons]
    rw [RelFs.len h2]
theorem RelFs.put {f : Str} {d : D} {v : V} (k : RelD G M d v) : ∀ {fs : List (Str × D)} {vs : List (Str × V)}, RelFs G M fs vs → RelFs G M (putFD f d fs) (putF f v vs)
  | [], _, h => by cases (show _ = [] from h); exact ⟨v, [], rfl, k, rfl⟩
  | (g, x) :: fs, _, h => by
    obtain ⟨w, r, rfl, h1, h2⟩ := h
    unfold putFD putF
    by_cases q : g = f
    · rw [if_pos q, if_pos q]; exact ⟨v, r, rfl, k, h2⟩
    · rw [if_neg q, if_neg q]; exact ⟨w, _, rfl, h1, RelFs.put k h2⟩
end
/-! ### an exception -/
def ExcR (G : Gx) (M : Mp) (fs : List (Str × D)) (dx : Option Addr) (H : Hp) : Prop := (fs = [] ∧ dx = none) ∨ ∃ d vfs, dx = some d ∧ H d = some (.xd vfs) ∧ RelFs G M fs vfs ∧ ∀ l, M.loc l ≠ some d
theorem ExcR.mono {G : Gx} {M M' : Mp} {H H' : Hp} (e : Ext M H M' H') {fs : List (Str × D)} {dx : Option Addr} (h : ExcR G M fs dx H) : ExcR G M' fs dx H' := by
  rcases h with h | ⟨d, vfs, h1, h2, h3, h4⟩
  · exact .inl h
  · refine .inr ⟨d, vfs, h1, e.keep d _ h2 h4 (fun _ z => by cases z), h3.mono e, fun l q => ?_⟩
    rcases e.new l d q with z | z
    · exact h4 l z
    · rw [h2] at z; cases z
/-- not a code object -/
theorem code_ne {u : HO} {c : Addr} {q : Str} (h : ∀ φ, u ≠ .ext φ) : u ≠ LamX.CodeO c q := fun z => by
  unfold LamX.CodeO at z
  exact h _ z
/-- the tables stay -/
theorem tabs_fresh {T : List (Addr × Str)} {H : Hp} {p : Addr} {o : HO} (t : LamX.Tabs T H) (hp : H p = none) : LamX.Tabs T (upd H p o) := t.ext fun b x h => by rw [upd_ne (fun q => by rw [q, hp] at h; cases h)]; exact h
theorem tabs_set {T : List (Addr × Str)} {H : Hp} {p : Addr} {u o : HO} (t : LamX.Tabs T H) (hp : H p = some u) (n1 : ∀ ps, u ≠ .tbl ps) (n2 : ∀ c q, u ≠ LamX.CodeO c q) : LamX.Tabs T (upd H p o) := fun x hx => by
  obtain ⟨ps, h1, h2, h3⟩ := t x hx
  have e1 : x.1 ≠ p := fun q => by rw [q, hp] at h1; cases h1; exact n1 ps rfl
  refine ⟨ps, by rw [upd_ne e1]; exact h1, h2, fun pos cv hc => ?_⟩
  obtain ⟨c, q1, q2⟩ := h3 pos cv hc
  exact ⟨c, q1, by rw [upd_ne (fun q => by rw [q, hp] at q2; cases q2; exact n2 _ _ rfl)]; exact q2⟩
/-! ### slots -/
def SlotR (G : Gx) (M : Mp) (H : Hp) : Sl → Option V → Prop
  | .un, _ => True
  | .val d, v => ∃ x, v = some x ∧ RelD G M d x
  | .own ds, v => ∃ a vs, v = some (.ref a) ∧ H a = some (.lst vs) ∧ RelDs G M ds vs ∧ (∀ l, M.loc l ≠ some a) ∧ M.lst a = none
  | .ownd _ _, _ => False
  | .exc c fs, v => ∃ a oe C dx, v = some (.ref a) ∧ (a, oe) ∈ G.pn ∧ Zc (.ref C) dx oe ∧ (∃ us, oe.data = .fields us) ∧ G.mg c = some (.ref C) ∧ ExcR G M fs dx H
  | .lam, v => ∃ f M1 H1, G.lam = some (f, M1, H1) ∧ v = some (.ref f) ∧ Ext M1 H1 M H
structure EnvR (G : Gx) (M : Mp) (H : Hp) (r : Rho) (s : L2.St) : Prop where
  len : r.length = s.length
  sl : ∀ (i : Nat) (x : Sl), r[i]? = some x → ∃ v, s[i]? = some v ∧ SlotR G M H x v
  apt : ∀ (i j : Nat) (xs ys : List D) (a : Addr), r[i]? = some (.own xs) → r[j]? = some (.own ys) → s[i]? = some (some (.ref a)) → s[j]? = some (some (.ref a)) → i = j
theorem SlotR.mono {G : Gx} {M M' : Mp} {H H' : Hp} (e : Ext M H M' H') {x : Sl} {v : Option V} (h : SlotR G M H x v) : SlotR G M' H' x v := by
  cases x with
  | un => trivial
  | val d => obtain ⟨x, h1, h2⟩ := h; exact ⟨x, h1, h2.mono e⟩
  | own ds =>
    obtain ⟨a, vs, h1, h2, h3, h4, h5⟩ := h
    refine ⟨a, vs, h1, e.keep a _ h2 h4 (fun _ z => by cases z), h3.mono e, fun l q => ?_, ?_⟩
    · rcases e.new l a q with z | z
      · exact h4 l z
      · rw [h2] at z; cases z
    · cases q : M'.lst a with
      | none => rfl
      | some ws =>
        rcases e.newl a ws q with z | z
        · rw [h5] at z; cases z
        · rw [h2] at z; cases z
  | ownd _ _ => exact h
  | exc c fs =>
    obtain ⟨a, oe, C, dx, h1, h2, h3, h4, h5, h6⟩ := h
    exact ⟨a, oe, C, dx, h1, h2, h3, h4, h5, h6.mono e⟩
  | lam =>
    obtain ⟨f, M1, H1, h1, h2, h3⟩ := h
    exact ⟨f, M1, H1, h1, h2, h3.trans e⟩
theorem EnvR.mono {G : Gx} {M M' : Mp} {H H' : Hp} {r : Rho} {s : L2.St} (e : Ext M H M' H') (h : EnvR G M H r s) : EnvR G M' H' r s :=
  ⟨h.len, fun i x q => let ⟨v, h1, h2⟩ := h.sl i x q; ⟨v, h1, h2.mono e⟩, h.apt⟩
/-! ### ends -/
/-- an end: what is wanted of it; R tells how the answer lies -/
def Post {a b : Type} (G : Gx) (R : Mp → Hp → a → b → Prop) (W : WX) (M : Mp) (H : Hp) (s : L2.St) (r : Rs a) (Q : b → Hp → Prop) : Prop := match r with
  | .ok x S => ∀ M' y H', Ext M H M' H' → RelH G M' S H' → R M' H' x y → Q y H'
  | .exc c fs S => ∀ M' H' C dx, Ext M H M' H' → RelH G M' S H' → G.mg c = some (.ref C) → ExcR G M' fs dx H' → W (.ref C) dx s H'
  | .bad => False
section
variable {a b a2 b2 : Type} {G : Gx} {R : Mp → Hp → a → b → Prop} {R2 : Mp → Hp → a2 → b2 → Prop} {W : WX} {M M1 : Mp} {H H1 : Hp} {s : L2.St} {Q Q' : b → Hp → Prop} {Q2 : b2 → Hp → Prop}
theorem Post.mono {r : Rs a} (e : Ext M H M1 H1) (h : Post G R W M H s r Q) : Post G R W M1 H1 s r Q := by
  cases r with
  | ok x S => exact fun M' y H' e' => h M' y H' (e.trans e')
  | exc c fs S => exact fun M' H' C dx e' => h M' H' C dx (e.trans e')
  | bad => exact h
theorem Post.imp {r : Rs a} (h : Post G R W M H s r Q) (k : ∀ y H, Q y H → Q' y H) : Post G R W M H s r Q' := by
  cases r with
  | ok x S => exact fun M' y H' e rh q => k _ _ (h M' y H' e rh q)
  | exc c fs S => exact h
  | bad => exact h
theorem Post.bind {r : Rs a} {f : a → Store → Rs a2} (h : Post G R2 W M H s (r.bind f) Q2) :
    Post G R W M H s r fun y H1 => ∃ M1 x S1, Ext M H M1 H1 ∧ RelH G M1 S1 H1 ∧ R M1 H1 x y ∧ Post G R2 W M1 H1 s (f x S1) Q2 := by
  cases r with
  | ok x S => exact fun M1 y H1 e rh q => ⟨M1, x, S, e, rh, q, Post.mono e h⟩
  | exc c fs S => exact h
  | bad => exact h
end
/-- the text's tables of code objects -/
class Tb where
  T : List (Addr × Str)
  lam : Option (Addr × Mp × Hp)
variable [Tb]
abbrev gx (X : Cx) : Gx := ⟨X.K, X.mg, Tb.T, X.pn, Tb.lam⟩
abbrev gk (K : PySem.W.Frag) (mg : Str → Option Value) : Gx := ⟨K, mg, Tb.T, [], Tb.lam⟩
abbrev RD (G : Gx) : Mp → Hp → D → V → Prop := fun M _ d v => RelD G M d v
abbrev RB : Mp → Hp → Bool → Bool → Prop := fun _ _ b c => b = c
abbrev RA (G : Gx) : Mp → Hp → List D → List V → Prop := fun M _ d v => RelDs G M d v
/-- the reading of an expression that tells d -/
def tE (G : Gx) (W : WX) (d : DE) : TE := fun s H Q => ∃ M r S, EnvR G M H r s ∧ RelH G M S H ∧ Post G (RD G) W M H s (d r S) Q
def tT (G : Gx) (W : WX) (d : DT) : TT := fun s H Q => ∃ M r S, EnvR G M H r s ∧ RelH G M S H ∧ Post G RB W M H s (d r S) Q
def tA (G : Gx) (W : WX) (d : DA) : TA := fun s H Q => ∃ M r S, EnvR G M H r s ∧ RelH G M S H ∧ Post G (RA G) W M H s (d r S) Q
def RSrc (G : Gx) (s : L2.St) : Mp → Hp → Src → V → Prop := fun M _ c v => match c with
  | .cst true xs => RelD G M (.tup xs) v
  | .cst false xs => RelD G M (.lst xs) v
  | .own i => ∃ a, v = .ref a ∧ s[i]? = some (some (.ref a))
  | .loc l => RelD G M (.ref l) v
def tL (G : Gx) (W : WX) (d : DL) : TE := fun s H Q => ∃ M r S, EnvR G M H r s ∧ RelH G M S H ∧ Post G (RSrc G s) W M H s (d r S) Q
abbrev SE (X : Cx) (W : WX) (e : Expr) (d : DE) : Prop := PE X e (tE (gx X) W d)
abbrev ST (X : Cx) (W : WX) (e : Expr) (d : DT) : Prop := PT X e (tT (gx X) W d)
abbrev SA (X : Cx) (W : WX) (es : List Expr) (d : DA) : Prop := PA X es (tA (gx X) W d)
abbrev SL (X : Cx) (W : WX) (e : Expr) (d : DL) : Prop := PE X e (tL (gx X) W d)
/-! ### statements: told from the def's entry M0, H0 -/
structure Wst (G : Gx) (M0 : Mp) (H0 : Hp) (M : Mp) (r : Rho) (S : Store) (s : L2.St) (H : Hp) : Prop where
  env : EnvR G M H r s
  heap : RelH G M S H
  ext : Ext M0 H0 M H
  own : ∀ (i : Nat) (xs : List D) (a : Addr), r[i]? = some (.own xs) → s[i]? = some (some (.ref a)) → H0 a = none
theorem Wst.mono {G : Gx} {M0 : Mp} {H0 : Hp} {M M' : Mp} {r : Rho} {S S' : Store} {s : L2.St} {H H' : Hp} (h : Wst G M0 H0 M r S s H) (e : Ext M H M' H') (rh : RelH G M' S' H') : Wst G M0 H0 M' r S' s H' :=
  ⟨h.env.mono e, rh, h.ext.trans e, h.own⟩
/-- what stands goes on standing -/
structure Le (M M' : Mp) : Prop where
  loc : ∀ l a, M.loc l = some a → M'.loc l = some a
  tup : ∀ a vs, M.tup a = some vs → M'.tup a = some vs
  lst : ∀ a vs, M.lst a = some vs → M'.lst a = some vs
theorem Le.refl {M : Mp} : Le M M := ⟨fun _ _ h => h, fun _ _ h => h, fun _ _ h => h⟩
theorem Le.trans {M M1 M2 : Mp} (a : Le M M1) (b : Le M1 M2) : Le M M2 := ⟨fun l x h => b.loc l x (a.loc l x h), fun l x h => b.tup l x (a.tup l x h), fun l x h => b.lst l x (a.lst l x h)⟩
theorem Ext.le {M M' : Mp} {H H' : Hp} (e : Ext M H M' H') : Le M M' := ⟨e.loc, e.tup, e.lst⟩
mutual
theorem RelD.le {G : Gx} {M M' : Mp} (e : Le M M') : ∀ {d : D} {v : V}, RelD G M d v → RelD G M' d v
  | .non, _, h => h
  | .bl _, _, h => h
  | .int _, _, h => h
  | .str _, _, h => h
  | .tup ds, _, h => by
    obtain ⟨a, vs, rfl, h1, h2⟩ := h
    exact ⟨a, vs, rfl, h1.imp (e.tup a vs) id, RelDs.le e h2⟩
  | .lst ds, _, h => by
    obtain ⟨a, vs, rfl, h1, h2⟩ := h
    exact ⟨a, vs, rfl, h1.imp (e.lst a vs) id, RelDs.le e h2⟩
  | .ref l, _, h => by
    obtain ⟨a, rfl, h1⟩ := h
    exact ⟨a, rfl, e.loc l a h1⟩
  | .cls _, _, h => h
  | .fn _, _, h => h
theorem RelDs.le {G : Gx} {M M' : Mp} (e : Le M M') : ∀ {ds : List D} {vs : List V}, RelDs G M ds vs → RelDs G M' ds vs
  | [], _, h => h
  | d :: ds, _, h => by
    obtain ⟨v, r, rfl, h1, h2⟩ := h
    exact ⟨v, r, rfl, RelD.le e h1, RelDs.le e h2⟩
end
def PostS (G : Gx) (M0 : Mp) (H0 : Hp) (W : WX) (M1 : Mp) (r : Sr) (D : Ends) : Prop := match r with
  | .next r S => ∀ M s H, Wst G M0 H0 M r S s H → Le M1 M → D.nx s H
  | .ret d r S => ∀ M v s H, Wst G M0 H0 M r S s H → Le M1 M → RelD G M d v → D.rt v H
  | .brk r S => ∀ M s H, Wst G M0 H0 M r S s H → Le M1 M → D.bk s H
  | .cont r S => ∀ M s H, Wst G M0 H0 M r S s H → Le M1 M → D.ct s H
  | .exc c fs r S => ∀ M s H C dx, Wst G M0 H0 M r S s H → Le M1 M → G.mg c = some (.ref C) → ExcR G M fs dx H → W (.ref C) dx s H
  | .bad => False
def tS (G : Gx) (M0 : Mp) (H0 : Hp) (W : WX) (d : DS) : TS := fun D s H => ∃ M r S, Wst G M0 H0 M r S s H ∧ PostS G M0 H0 W M (d r S) D
abbrev SS (X : Cx) (M0 : Mp) (H0 : Hp) (W : WX) (st : Stmt) (d : DS) : Prop := PS X st (tS (gx X) M0 H0 W d)
abbrev SSs (X : Cx) (M0 : Mp) (H0 : Hp) (W : WX) (st : List Stmt) (d : DS) : Prop := PSs X st (tS (gx X) M0 H0 W d)
theorem PostS.le {G : Gx} {M0 : Mp} {H0 : Hp} {W : WX} {M1 M2 : Mp} {r : Sr} {D : Ends} (h : PostS G M0 H0 W M1 r D) (e : Le M1 M2) : PostS G M0 H0 W M2 r D := by
  cases r with
  | next r S => exact fun M s H w l => h M s H w (e.trans l)
  | ret d r S => exact fun M v s H w l => h M v s H w (e.trans l)
  | brk r S => exact fun M s H w l => h M s H w (e.trans l)
  | cont r S => exact fun M s H w l => h M s H w (e.trans l)
  | exc c fs r S => exact fun M s H C dx w l => h M s H C dx w (e.trans l)
  | bad => exact h
/-- an expression's end within a statement -/
theorem PostS.toS {a b : Type} {G : Gx} {M0 : Mp} {H0 : Hp} {W : WX} {D : Ends} {R : Mp → Hp → a → b → Prop} {x : Rs a} {M : Mp} {r : Rho} {S : Store} {s : L2.St} {H : Hp} {f : a → Store → Sr} (en : Wst G M0 H0 M r S s H) (h : PostS G M0 H0 W M (x.toS r f) D) :
    Post G R W M H s x fun y H1 => ∃ M1 v S1, Wst G M0 H0 M1 r S1 s H1 ∧ Ext M H M1 H1 ∧ R M1 H1 v y ∧ PostS G M0 H0 W M1 (f v S1) D := by
  cases x with
  | ok v S1 => exact fun M1 y H1 e rh q => ⟨M1, v, S1, en.mono e rh, e, q, PostS.le h e.le⟩
  | exc c fs S1 => exact fun M1 H1 C dx e rh q1 q2 => h M1 s H1 C dx (en.mono e rh) e.le q1 q2
  | bad => exact h
end Dn

end
section
set_option Elab.async false
set_option linter.all false
set_option maxRecDepth 100000
set_option maxHeartbeats 4000000
/-! The rules: expressions. -/
namespace Dn
open PySem PySem.Spec PyProof.Rows L2
variable [Tb]
section
variable {X : Cx} {W : WX} {a b c e : Expr} {da db dc : DE} {pos : Pos}
/-! ### names, constants -/
theorem se_var {i : Nat} {x : Str} (hN : X.N[i]? = some x) (hv : Vis X.env.scope x) (hd : (x == ("__debug__" : Str)) = false := by decide) (hcd : (x == ("__classdict__" : Str)) = false := by decide) : SE X W (.Name x pos) (eVar i) := by
  refine (pe_var (i := i) hN hv hd hcd).dimp ?_
  rintro s H Q ⟨M, r, S, en, rh, p⟩
  unfold eVar at p
  cases q : r[i]? with
  | none => rw [q] at p; exact p.elim
  | some z =>
    rw [q] at p
    obtain ⟨v, h1, h2⟩ := en.sl i z q
    cases z with
    | val d =>
      obtain ⟨x, rfl, h3⟩ := h2
      exact ⟨x, h1, p M x H Ext.refl rh h3⟩
    | un => exact p.elim
    | own _ => exact p.elim
    | ownd _ _ => exact p.elim
    | exc _ _ => exact p.elim
    | lam => exact p.elim
theorem se_c {d : D} {v : V} (h : PE X e (tC v)) (k : ∀ M, RelD (gx X) M d v) : SE X W e (eC d) := by
  refine h.dimp ?_
  rintro s H Q ⟨M, r, S, en, rh, p⟩
  exact p M v H Ext.refl rh (k M)
theorem se_int {i j} : SE X W (.Constant (.int i) j pos) (eC (.int i)) := se_c pe_int fun _ => rfl
theorem se_bl {i j} : SE X W (.Constant (.bool i) j pos) (eC (.bl i)) := se_c pe_bl fun _ => rfl
theorem se_non {j} : SE X W (.Constant .none j pos) (eC .non) := se_c pe_non fun _ => rfl
theorem se_str {x j} : SE X W (.Constant (.str x) j pos) (eC (.str x)) := se_c pe_str fun _ => rfl
/-- a constant of the module's: a number, a text -/
theorem se_gint {x : Str} {i : Int} {t : Tok} (hg : Gl X x) (hm : X.mg x = some (.int i t)) (hd : (x == ("__debug__" : Str)) = false := by decide) : SE X W (.Name x pos) (eC (.int i)) := se_c (pe_glob (v := .int i) hg hm ⟨_, rfl⟩ hd) fun _ => rfl
/-! ### operators -/
theorem bind2 {a b : Type} {G : Gx} {M : Mp} {r : Rho} {S : Store} {H : Hp} {s : L2.St} {da db : DE} {R : Mp → Hp → a → b → Prop} {f : D → D → Store → Rs a} {Q : b → Hp → Prop} (en : EnvR G M H r s)
    (p : Post G R W M H s ((da r S).bind fun x S => (db r S).bind fun y S => f x y S) Q) :
    Post G (RD G) W M H s (da r S) fun v H1 => ∃ M1 S1, Ext M H M1 H1 ∧ RelH G M1 S1 H1 ∧ EnvR G M1 H1 r s ∧ Post G (RD G) W M1 H1 s (db r S1) fun u H2 => ∃ M2 x y S2, Ext M1 H1 M2 H2 ∧ RelH G M2 S2 H2 ∧ EnvR G M2 H2 r s ∧ RelD G M2 x v ∧ RelD G M2 y u ∧ Post G R W M2 H2 s (f x y S2) Q := by
  refine p.bind.imp fun v H1 h => ?_
  obtain ⟨M1, x, S1, e1, rh1, rd1, p1⟩ := h
  refine ⟨M1, S1, e1, rh1, en.mono e1, p1.bind.imp fun u H2 h => ?_⟩
  obtain ⟨M2, y, S2, e2, rh2, rd2, p2⟩ := h
  exact ⟨M2, x, y, S2, e2, rh2, (en.mono e1).mono e2, rd1.mono e2, rd2, p2⟩
/-- what an operator tells, over the heap -/
def OpS (G : Gx) (r : R2) (f : Store → D → D → Option D) : Prop := ∀ (M : Mp) (S : Store) (H : Hp) (x y z : D) (v u : V) (Q : VK), RelH G M S H → RelD G M x v → RelD G M y u → f S x y = some z →
  (∀ M' w H', Ext M H M' H' → RelH G M' S H' → RelD G M' z w → Q w H') → r v u H Q
theorem se_op {op : Operator} {r : R2} {f : Store → D → D → Option D} (ho : OpR X (binaryOp op) r) (hf : OpS (gx X) r f) (ha : SE X W a da) (hb : SE X W b db) : SE X W (.BinOp a op b pos) (eOp f da db) := by
  refine (pe_op ho ha hb).dimp ?_
  rintro s H Q ⟨M, r, S, en, rh, p⟩
  refine ⟨M, r, S, en, rh, (bind2 en p).imp fun v H1 h => ?_⟩
  obtain ⟨M1, S1, e1, rh1, en1, p1⟩ := h
  refine ⟨M1, r, S1, en1, rh1, p1.imp fun u H2 h => ?_⟩
  obtain ⟨M2, x, y, S2, e2, rh2, en2, rd1, rd2, p2⟩ := h
  cases q : f S2 x y with
  | none => rw [q] at p2; exact p2.elim
  | some z =>
    rw [q] at p2
    exact hf M2 S2 H2 x y z v u Q rh2 rd1 rd2 q p2
/-- a list's items of a heap -/
theorem listOf_ok {G : Gx} {M : Mp} {S : Store} {H : Hp} {x : D} {v : V} {xs : List D} (rh : RelH G M S H) (rd : RelD G M x v) (h : listOf S x = some xs) : ∃ p vs, v = .ref p ∧ SqL G.K H p vs ∧ RelDs G M xs vs := by
  cases x with
  | lst ds =>
    cases h
    obtain ⟨p, vs, rfl, h1, h2⟩ := rd
    exact ⟨p, vs, rfl, rh.sq h1, h2⟩
  | ref l =>
    obtain ⟨p, rfl, h1⟩ := rd
    dsimp only [listOf] at h
    cases q : S[l]? with
    | none => rw [q] at h; cases h
    | some o =>
      rw [q] at h
      cases o with
      | lst ds =>
        cases h
        obtain ⟨a, e1, vs, e2, e3⟩ := rh.obj l _ q
        rw [h1] at e1; cases e1
        exact ⟨p, vs, rfl, .inl (.inl e2), e3⟩
      | ins _ _ => cases h
      | dct _ _ => cases h
  | _ => cases h
theorem Rd.sql {K : PySem.W.Frag} {H : Hp} {p : Addr} {vs : List V} (h : Rd H p (.lst vs)) : SqL K H p vs := .inl h
/-- a new object is laid: a list that stays -/
theorem Ext.lstNew {G : Gx} {M : Mp} {S : Store} {H : Hp} {p : Addr} {ds : List D} {vs : List V} (rh : RelH G M S H) (hp : H p = none) (h : RelDs G M ds vs) :
    ∃ M', Ext M H M' (upd H p (.lst vs)) ∧ RelH G M' S (upd H p (.lst vs)) ∧ RelD G M' (.lst ds) (.ref p) := by
  have nt : M.tup p = none := by
    cases q : M.tup p with
    | none => rfl
    | some x => have := rh.tup p x q; rw [hp] at this; cases this
  have nl : M.lst p = none := by
    cases q : M.lst p with
    | none => rfl
    | some x =>
      rcases rh.lst p x q with z | ⟨o, z⟩ <;> (rw [hp] at z; cases z)
  have no : ∀ l, M.loc l ≠ some p := fun l q => by
    have hl := rh.dom l p q
    obtain ⟨a, e1, e2⟩ := rh.obj l S[l] (by simp [hl])
    rw [q] at e1; cases e1
    rw [hp] at e2
    cases hS : S[l] with
    | lst ds => rw [hS] at e2; obtain ⟨_, z, _⟩ := e2; cases z
    | ins c fs => rw [hS] at e2; obtain ⟨_, _, _, z, _⟩ := e2; cases z
    | dct _ _ => rw [hS] at e2; exact DctR.not e2
  have ne : ∀ b o, H b = some o → b ≠ p := fun b o h q => by rw [q, hp] at h; cases h
  have ex : Ext M H ⟨M.loc, M.tup, fun a => if a = p then some vs else M.lst a⟩ (upd H p (.lst vs)) := by
    refine ⟨fun _ _ h => h, fun _ _ h => h, fun a x h => ?_, fun _ _ h => .inl h, fun a x h => ?_, fun a o h _ _ => ?_, fun a o h => ⟨o, ?_⟩⟩
    · have : a ≠ p := fun q => by rw [q, nl] at h; cases h
      show (if a = p then some vs else M.lst a) = some x
      rw [if_neg this]; exact h
    · by_cases q : a = p
      · exact .inr (by rw [q]; exact hp)
      · exact .inl (by rw [← h]; show M.lst a = (if a = p then some vs else M.lst a); rw [if_neg q])
    · rw [upd_ne (ne a o h)]; exact h
    · rw [upd_ne (ne a o h)]; exact h
  refine ⟨_, ex, ?_, p, vs, rfl, .inl (by show (if p = p then some vs else M.lst p) = some vs; rw [if_pos rfl]), h.mono ex⟩
  refine ⟨fun l o q => ?_, rh.dom, rh.inj, fun a x h => ?_, fun a x h => ?_, fun a x l h => ?_, tabs_fresh rh.tabs hp⟩
  · obtain ⟨a, e1, e2⟩ := rh.obj l o q
    have hne : a ≠ p := fun z => no l (by rw [← z]; exact e1)
    refine ⟨a, e1, ?_⟩
    rw [upd_ne hne]
    exact e2.mono ex
  · have := rh.tup a x h
    rw [upd_ne (ne a _ this)]; exact this
  · by_cases q : a = p
    · subst q
      have h' : (if a = a then some vs else M.lst a) = some x := h
      rw [if_pos rfl] at h'
      cases h'
      exact .inl upd_same
    · have h' : (if a = p then some vs else M.lst a) = some x := h
      rw [if_neg q] at h'
      rcases rh.lst a x h' with z | ⟨o, z⟩
      · exact .inl (by rw [upd_ne q]; exact z)
      · exact .inr ⟨o, by rw [upd_ne q]; exact z⟩
  · by_cases q : a = p
    · rw [q]; exact no l
    · have h' : (if a = p then some vs else M.lst a) = some x := h
      rw [if_neg q] at h'
      exact rh.apt a x l h'
/-- .. a tuple -/
theorem Ext.tupNew {G : Gx} {M : Mp} {S : Store} {H : Hp} {p : Addr} {ds : List D} {vs : List V} (rh : RelH G M S H) (hp : H p = none) (h : RelDs G M ds vs) :
    ∃ M', Ext M H M' (upd H p (.tup vs)) ∧ RelH G M' S (upd H p (.tup vs)) ∧ RelD G M' (.tup ds) (.ref p) := by
  have nt : M.tup p = none := by
    cases q : M.tup p with
    | none => rfl
    | some x => have := rh.tup p x q; rw [hp] at this; cases this
  have nl : M.lst p = none := by
    cases q : M.lst p with
    | none => rfl
    | some x =>
      rcases rh.lst p x q with z | ⟨o, z⟩ <;> (rw [hp] at z; cases z)
  have no : ∀ l, M.loc l ≠ some p := fun l q => by
    have hl := rh.dom l p q
    obtain ⟨a, e1, e2⟩ := rh.obj l S[l] (by simp [hl])
    rw [q] at e1; cases e1
    rw [hp] at e2
    cases hS : S[l] with
    | lst ds => rw [hS] at e2; obtain ⟨_, z, _⟩ := e2; cases z
    | ins c fs => rw [hS] at e2; obtain ⟨_, _, _, z, _⟩ := e2; cases z
    | dct _ _ => rw [hS] at e2; exact DctR.not e2
  have ne : ∀ b o, H b = some o → b ≠ p := fun b o h q => by rw [q, hp] at h; cases h
  have ex : Ext M H ⟨M.loc, fun a => if a = p then some vs else M.tup a, M.lst⟩ (upd H p (.tup vs)) := by
    refine ⟨fun _ _ h => h, fun a x h => ?_, fun _ _ h => h, fun _ _ h => .inl h, fun _ _ h => .inl h, fun a o h _ _ => ?_, fun a o h => ⟨o, ?_⟩⟩
    · have : a ≠ p := fun q => by rw [q, nt] at h; cases h
      show (if a = p then some vs else M.tup a) = some x
      rw [if_neg this]; exact h
    · rw [upd_ne (ne a o h)]; exact h
    · rw [upd_ne (ne a o h)]; exact h
  refine ⟨_, ex, ?_, p, vs, rfl, .inl (by show (if p = p then some vs else M.tup p) = some vs; rw [if_pos rfl]), h.mono ex⟩
  refine ⟨fun l o q => ?_, rh.dom, rh.inj, fun a x h => ?_, fun a x h => ?_, rh.apt, tabs_fresh rh.tabs hp⟩
  · obtain ⟨a, e1, e2⟩ := rh.obj l o q
    have hne : a ≠ p := fun z => no l (by rw [← z]; exact e1)
    refine ⟨a, e1, ?_⟩
    rw [upd_ne hne]
    exact e2.mono ex
  · by_cases q : a = p
    · subst q
      have h' : (if a = a then some vs else M.tup a) = some x := h
      rw [if_pos rfl] at h'
      cases h'
      exact upd_same
    · have h' : (if a = p then some vs else M.tup a) = some x := h
      rw [if_neg q] at h'
      rw [upd_ne q]
      exact rh.tup a x h'
  · have q : a ≠ p := fun q => by rw [q, nl] at h; cases h
    rcases rh.lst a x h with z | ⟨o, z⟩
    · exact .inl (by rw [upd_ne q]; exact z)
    · exact .inr ⟨o, by rw [upd_ne q]; exact z⟩
/-- .. that is numbered: a list, an instance (its own dict at d) -/
theorem Ext.locNew {G : Gx} {M : Mp} {S : Store} {H : Hp} {p : Addr} {ds : List D} {vs : List V} (rh : RelH G M S H) (hp : H p = none) (h : RelDs G M ds vs) :
    ∃ M', Ext M H M' (upd H p (.lst vs)) ∧ RelH G M' (S ++ [.lst ds]) (upd H p (.lst vs)) ∧ RelD G M' (.ref S.length) (.ref p) := by
  have nt : M.tup p = none := by
    cases q : M.tup p with
    | none => rfl
    | some x => have := rh.tup p x q; rw [hp] at this; cases this
  have nl : M.lst p = none := by
    cases q : M.lst p with
    | none => rfl
    | some x =>
      rcases rh.lst p x q with z | ⟨o, z⟩ <;> (rw [hp] at z; cases z)
  have no : ∀ l, M.loc l ≠ some p := fun l q => by
    have hl := rh.dom l p q
    obtain ⟨a, e1, e2⟩ := rh.obj l S[l] (by simp [hl])
    rw [q] at e1; cases e1
    rw [hp] at e2
    cases hS : S[l] with
    | lst ds => rw [hS] at e2; obtain ⟨_, z, _⟩ := e2; cases z
    | ins c fs => rw [hS] at e2; obtain ⟨_, _, _, z, _⟩ := e2; cases z
    | dct _ _ => rw [hS] at e2; exact DctR.not e2
  have ne : ∀ b o, H b = some o → b ≠ p := fun b o h q => by rw [q, hp] at h; cases h
  have nS : ∀ l x, M.loc l = some x → l ≠ S.length := fun l x h q => by have := rh.dom l x h; omega
  have ex : Ext M H ⟨fun l => if l = S.length then some p else M.loc l, M.tup, M.lst⟩ (upd H p (.lst vs)) := by
    refine ⟨fun l x h => ?_, fun _ _ h => h, fun _ _ h => h, fun l x h => ?_, fun _ _ h => .inl h, fun a o h _ _ => ?_, fun a o h => ⟨o, ?_⟩⟩
    · show (if l = S.length then some p else M.loc l) = some x
      rw [if_neg (nS l x h)]; exact h
    · have h' : (if l = S.length then some p else M.loc l) = some x := h
      by_cases q : l = S.length
      · rw [if_pos q] at h'; cases h'
        exact .inr hp
      · rw [if_neg q] at h'; exact .inl h'
    · rw [upd_ne (ne a o h)]; exact h
    · rw [upd_ne (ne a o h)]; exact h
  refine ⟨_, ex, ?_, p, rfl, by show (if S.length = S.length then some p else M.loc S.length) = some p; rw [if_pos rfl]⟩
  refine ⟨fun l o q => ?_, fun l x h => ?_, fun l k x h1 h2 => ?_, fun a x h => ?_, fun a x h => ?_, fun a x l h q => ?_, tabs_fresh rh.tabs hp⟩
  · by_cases hl : l = S.length
    · subst hl
      rw [List.getElem?_append_right (Nat.le_refl _)] at q
      simp at q
      subst q
      refine ⟨p, by show (if S.length = S.length then some p else M.loc S.length) = some p; rw [if_pos rfl], vs, upd_same, h.mono ex⟩
    · have hlt : l < S.length := by
        have := (List.getElem?_eq_some_iff.mp q).1
        simp at this; omega
      rw [List.getElem?_append_left hlt] at q
      obtain ⟨a, e1, e2⟩ := rh.obj l o q
      have hne : a ≠ p := fun z => no l (by rw [← z]; exact e1)
      refine ⟨a, by show (if l = S.length then some p else M.loc l) = some a; rw [if_neg hl]; exact e1, ?_⟩
      rw [upd_ne hne]
      exact e2.mono ex
  · have h' : (if l = S.length then some p else M.loc l) = some x := h
    by_cases q : l = S.length
    · rw [q]; simp
    · rw [if_neg q] at h'
      have := rh.dom l x h'
      simp; omega
  · have h1' : (if l = S.length then some p else M.loc l) = some x := h1
    have h2' : (if k = S.length then some p else M.loc k) = some x := h2
    by_cases q1 : l = S.length <;> by_cases q2 : k = S.length
    · rw [q1, q2]
    · rw [if_pos q1] at h1'; rw [if_neg q2] at h2'; cases h1'; exact absurd h2' (no k)
    · rw [if_neg q1] at h1'; rw [if_pos q2] at h2'; cases h2'; exact absurd h1' (no l)
    · rw [if_neg q1] at h1'; rw [if_neg q2] at h2'; exact rh.inj l k x h1' h2'
  · have := rh.tup a x h
    rw [upd_ne (ne a _ this)]; exact this
  · have q : a ≠ p := fun q => by rw [q, nl] at h; cases h
    rcases rh.lst a x h with z | ⟨o, z⟩
    · exact .inl (by rw [upd_ne q]; exact z)
    · exact .inr ⟨o, by rw [upd_ne q]; exact z⟩
  · have h' : (if l = S.length then some p else M.loc l) = some a := q
    by_cases z : l = S.length
    · rw [if_pos z] at h'; cases h'
      rw [nl] at h; cases h
    · rw [if_neg z] at h'
      exact rh.apt a x l h h'
end
end Dn

end
section
set_option Elab.async false
set_option linter.all false
set_option maxRecDepth 100000
set_option maxHeartbeats 4000000
/-! The rules: operators by values. -/
namespace Dn
open PySem PySem.Spec PyProof.Rows L2
variable [Tb]
/-! ### data -/
mutual
theorem P_lay : ∀ {k : Nat} {d : D}, D.pl k d = true → d.P.canLay0 = true ∧ d.P.depth ≤ k
  | _, .non, _ => by simp [D.P, PyData.canLay0, PyData.depth]
  | _, .bl _, _ => by simp [D.P, PyData.canLay0, PyData.depth]
  | _, .int _, _ => by simp [D.P, PyData.canLay0, PyData.depth]
  | _, .str x, h => by
    have h' : PyData.strOk x = true := by cases ‹Nat› <;> simpa [D.pl] using h
    simp [D.P, PyData.canLay0, PyData.depth, h']
  | 0, .tup _, h => by simp [D.pl] at h
  | 0, .lst _, h => by simp [D.pl] at h
  | k + 1, .tup xs, h => by
    have q := Ps_lay (k := k) (xs := xs) (by simpa [D.pl] using h)
    simp only [D.P, PyData.canLay0, PyData.depth]
    exact ⟨q.1, by omega⟩
  | k + 1, .lst xs, h => by
    have q := Ps_lay (k := k) (xs := xs) (by simpa [D.pl] using h)
    simp only [D.P, PyData.canLay0, PyData.depth]
    exact ⟨q.1, by omega⟩
  | k, .ref _, h => by cases k <;> simp [D.pl] at h
  | k, .cls _, h => by cases k <;> simp [D.pl] at h
  | k, .fn _, h => by cases k <;> simp [D.pl] at h
theorem Ps_lay : ∀ {k : Nat} {xs : List D}, D.pls k xs = true → PyData.canLayAll0 (D.Ps xs) = true ∧ PyData.depthAll (D.Ps xs) ≤ k
  | _, [], _ => by simp [D.Ps, PyData.canLayAll0, PyData.depthAll]
  | k, x :: xs, h => by
    have h' : D.pl k x = true ∧ D.pls k xs = true := by simpa [D.pls] using h
    have q1 := P_lay h'.1
    have q2 := Ps_lay h'.2
    simp only [D.Ps, PyData.canLayAll0, PyData.depthAll]
    exact ⟨by simp [q1.1, q2.1], by omega⟩
end
theorem shaped_of {d : D} (h : D.pl 64 d = true) : SeqAt.shaped d.P = true := by
  have q := P_lay h
  unfold SeqAt.shaped
  simp [q.1, q.2]
mutual
theorem eqv_of : ∀ {k m : Nat} (x y : D), D.pl k x = true → D.pl m y = true → PyData.eqv x.P y.P = eqD x y
  | _, _, .non, y, _, h => by cases y <;> simp_all [D.P, PyData.eqv, eqD, D.pl]
  | _, _, .bl _, y, _, h => by cases y <;> simp_all [D.P, PyData.eqv, eqD, D.pl]
  | _, _, .int _, y, _, h => by cases y <;> simp_all [D.P, PyData.eqv, eqD, D.pl]
  | _, _, .str _, y, _, h => by cases y <;> simp_all [D.P, PyData.eqv, eqD, D.pl]
  | 0, _, .tup _, _, h, _ => by simp [D.pl] at h
  | 0, _, .lst _, _, h, _ => by simp [D.pl] at h
  | k + 1, m, .tup xs, y, hx, hy => by
    cases y with
    | tup ys =>
      cases m with
      | zero => simp [D.pl] at hy
      | succ m =>
        simp only [D.P, PyData.eqv, eqD]
        exact eqvs_of xs ys (by simpa [D.pl] using hx) (by simpa [D.pl] using hy)
    | _ => cases m <;> simp_all [D.P, PyData.eqv, eqD, D.pl]
  | k + 1, m, .lst xs, y, hx, hy => by
    cases y with
    | lst ys =>
      cases m with
      | zero => simp [D.pl] at hy
      | succ m =>
        simp only [D.P, PyData.eqv, eqD]
        exact eqvs_of xs ys (by simpa [D.pl] using hx) (by simpa [D.pl] using hy)
    | _ => cases m <;> simp_all [D.P, PyData.eqv, eqD, D.pl]
  | k, _, .ref _, _, h, _ => by cases k <;> simp [D.pl] at h
  | k, _, .cls _, _, h, _ => by cases k <;> simp [D.pl] at h
  | k, _, .fn _, _, h, _ => by cases k <;> simp [D.pl] at h
theorem eqvs_of : ∀ {k m : Nat} (xs ys : List D), D.pls k xs = true → D.pls m ys = true → PyData.eqvAll (D.Ps xs) (D.Ps ys) = eqDs xs ys
  | _, _, [], [], _, _ => by simp [D.Ps, PyData.eqvAll, eqDs]
  | _, _, [], _ :: _, _, _ => by simp [D.Ps, PyData.eqvAll, eqDs]
  | _, _, _ :: _, [], _, _ => by simp [D.Ps, PyData.eqvAll, eqDs]
  | k, m, x :: xs, y :: ys, hx, hy => by
    have h1 : D.pl k x = true ∧ D.pls k xs = true := by simpa [D.pls] using hx
    have h2 : D.pl m y = true ∧ D.pls m ys = true := by simpa [D.pls] using hy
    simp only [D.Ps, PyData.eqvAll, eqDs]
    rw [eqv_of x y h1.1 h2.1, eqvs_of xs ys h1.2 h2.2]
end
mutual
/-- data as the layer reads it -/
theorem RelD.dp {G : Gx} {M : Mp} {S : Store} {H : Hp} (rh : RelH G M S H) : ∀ {k : Nat} {d : D} {v : V}, D.pl k d = true → RelD G M d v → Dp G.K H v d.P
  | _, .non, _, _, h => by cases (show _ = _ from h); exact .non
  | _, .bl b, _, _, h => by cases (show _ = _ from h); exact .bl b
  | _, .int i, _, _, h => by cases (show _ = _ from h); exact .int i
  | _, .str x, _, _, h => by cases (show _ = _ from h); exact .str x
  | 0, .tup _, _, h, _ => by simp [D.pl] at h
  | 0, .lst _, _, h, _ => by simp [D.pl] at h
  | k + 1, .tup xs, _, h, r => by
    obtain ⟨a, vs, rfl, h1, h2⟩ := r
    simp only [D.P]
    refine .tup (xs := vs) ?_ (RelDs.dps rh (k := k) (by simpa [D.pl] using h) h2)
    rcases h1 with h1 | h1
    · exact .inl (.inl (rh.tup a vs h1))
    · rcases h1 with z | z
      · rcases z with z | ⟨_, z⟩ <;> cases z
      · exact .inr z
  | k + 1, .lst xs, _, h, r => by
    obtain ⟨a, vs, rfl, h1, h2⟩ := r
    simp only [D.P]
    exact .lst (xs := vs) (rh.sq h1) (RelDs.dps rh (k := k) (by simpa [D.pl] using h) h2)
  | k, .ref _, _, h, _ => by cases k <;> simp [D.pl] at h
  | k, .cls _, _, h, _ => by cases k <;> simp [D.pl] at h
  | k, .fn _, _, h, _ => by cases k <;> simp [D.pl] at h
theorem RelDs.dps {G : Gx} {M : Mp} {S : Store} {H : Hp} (rh : RelH G M S H) : ∀ {k : Nat} {ds : List D} {vs : List V}, D.pls k ds = true → RelDs G M ds vs → DpAll G.K H vs (D.Ps ds)
  | _, [], _, _, h => by cases (show _ = _ from h); exact .nil
  | k, x :: xs, _, h, r => by
    obtain ⟨v, vs, rfl, h1, h2⟩ := r
    have h' : D.pl k x = true ∧ D.pls k xs = true := by simpa [D.pls] using h
    simp only [D.Ps]
    exact .cons (RelD.dp rh h'.1 h1) (RelDs.dps rh h'.2 h2)
end
/-- a tuple of a heap -/
theorem tup_ok {G : Gx} {M : Mp} {S : Store} {H : Hp} {v : V} {xs : List D} (rh : RelH G M S H) (rd : RelD G M (.tup xs) v) : ∃ p vs, v = .ref p ∧ SqT G.K H p vs ∧ RelDs G M xs vs := by
  obtain ⟨a, vs, rfl, h1, h2⟩ := rd
  refine ⟨a, vs, rfl, ?_, h2⟩
  rcases h1 with h1 | h1
  · exact .inl (.inl (rh.tup a vs h1))
  · rcases h1 with z | z
    · rcases z with z | ⟨_, z⟩ <;> cases z
    · exact .inr z
theorem len_line {G : Gx} {M : Mp} {ds es : List D} {vs ws : List V} (h1 : RelDs G M ds vs) (h2 : RelDs G M es ws) (h : ds.length + es.length ≤ sizeLine) : vs.length + ws.length ≤ sizeLine := by
  rw [← h1.len, ← h2.len]; exact h
section
variable {X : Cx}
/-! ### + of lists wherever they stand, of tuples, the left one empty -/
def rCatQ (K : PySem.W.Frag) : R2 := fun x y H Q => ∃ l b xs zs, x = .ref l ∧ y = .ref b ∧ SqL K H l xs ∧ SqL K H b zs ∧ xs.length + zs.length ≤ sizeLine ∧ ∀ p, H p = none → Q (.ref p) (upd H p (.lst (xs ++ zs)))
def rCatT0 (K : PySem.W.Frag) : R2 := fun x y H Q => ∃ a b ys, x = .ref a ∧ y = .ref b ∧ SqT K H a [] ∧ SqT K H b ys ∧ Q (.ref b) H
theorem op_catT0 : OpR X (binaryOp .Add) (rCatT0 X.K) := by
  intro pins s z H x y v u Q I rx ry h
  obtain ⟨a, b, ys, rfl, rfl, ha, hb, q⟩ := h
  cases rx
  cases ry
  obtain ⟨its, r1, p1, _⟩ := I.tuple ha
  obtain ⟨its2, r2, p2, _⟩ := I.tuple hb
  cases r1
  obtain ⟨⟨cls, dd, data, sl⟩, ho, hc, n, hd⟩ := p1
  obtain ⟨⟨cls2, dd2, data2, sl2⟩, ho2, hc2, n2, hd2⟩ := p2
  simp only at hc hd hc2 hd2
  subst hc hd hc2 hd2
  exact concat_meets ⟨_, ho, rfl⟩ ⟨_, ho2, rfl⟩ noFill_tuple_add seq_tuple_add PySem.F.slot_tuple_add PySem.F.entry_tuple_add (PySem.F.args_tuple_add_2 _ _)
    (tuple_addW0 a b #[] its2.toArray n n2 dd dd2 sl sl2 (by simp)) ⟨ho, ho2, .ref b, H, I, rfl, q⟩
theorem op_catQ : OpR X (binaryOp .Add) (rCatQ X.K) := by
  intro pins s z H x y v u Q I rx ry h
  obtain ⟨l, b, xs, zs, rfl, rfl, hH, hB, hz, q⟩ := h
  cases rx
  cases ry
  obtain ⟨its, r, ⟨o, n, ho, hc, hd, hdt⟩, _⟩ := I.list hH
  obtain ⟨its2, r2, ⟨o2, n2, ho2, hc2, hd2, hdt2⟩, _⟩ := I.list hB
  have e := ho
  have e2 := ho2
  have hl := r.length
  have hl2 := r2.length
  have ea : its.toArray ++ its2.toArray = (its ++ its2).toArray := by simp
  obtain ⟨cls, dd, data, sl⟩ := o
  obtain ⟨cls2, dd2, data2, sl2⟩ := o2
  simp only at hc hd hdt hc2 hd2 hdt2
  subst hc hd hdt hc2 hd2 hdt2
  refine concat_meets ⟨_, ho, rfl⟩ ⟨_, ho2, rfl⟩ noFill_list_add seq_list_add PySem.F.slot_list_add PySem.F.entry_list_add (PySem.F.args_list_add_2 _ _)
    (list_addW l b its.toArray its2.toArray n n2 none none sl sl2 (by rw [List.size_toArray, List.size_toArray]; omega)) ⟨ho, ho2, ?_⟩
  rw [ea]
  exact ⟨.ref _, _, I.lnew (t' := s.toks) (r.append r2) (by rw [List.length_append]; omega), rfl, q _ I.fresh⟩
end
end Dn

end
section
set_option Elab.async false
set_option linter.all false
set_option maxRecDepth 100000
set_option maxHeartbeats 4000000
/-! The rules: operators, comparisons, tests, arguments, displays, calls. -/
namespace Dn
open PySem PySem.Spec PyProof.Rows L2
variable [Tb]
section
variable {X : Cx}
def rAddA (K : PySem.W.Frag) : R2 := fun x y H Q => rI0 (fun i j => .int (i + j)) x y H Q ∨ (∃ i j, x = .str i ∧ y = .str j ∧ i.length + j.length ≤ sizeLine ∧ Q (.str (i ++ j)) H) ∨ rCatT K x y H Q ∨ rCatT0 K x y H Q ∨ rCatQ K x y H Q
theorem op_addA : OpR X (binaryOp .Add) (rAddA X.K) := op_add.or (op_add_str.or (op_catT.or (op_catT0.or op_catQ)))
theorem ops_add {G : Gx} : OpS G (rAddA G.K) opAdd := by
  intro M S H x y z v u Q rh rx ry h k
  have lists : ∀ {xs ys : List D}, listOf S x = some xs → listOf S y = some ys → xs.length + ys.length ≤ sizeLine → (D.lst (xs ++ ys)) = z → rCatQ G.K v u H Q := by
    intro xs ys h1 h2 hl e
    obtain ⟨p, vs, rfl, p1, p2⟩ := listOf_ok rh rx h1
    obtain ⟨q, ws, rfl, q1, q2⟩ := listOf_ok rh ry h2
    refine ⟨p, q, vs, ws, rfl, rfl, p1, q1, len_line p2 q2 hl, fun a ha => ?_⟩
    obtain ⟨M', e1, e2, e3⟩ := Ext.lstNew rh ha (p2.append q2)
    exact k M' _ _ e1 e2 (e ▸ e3)
  have gen : (match listOf S x, listOf S y with
    | some xs, some ys => if xs.length + ys.length ≤ sizeLine then some (D.lst (xs ++ ys)) else none
    | _, _ => none) = some z → rAddA G.K v u H Q := by
    intro h
    cases h1 : listOf S x with
    | none => rw [h1] at h; cases h
    | some xs =>
      cases h2 : listOf S y with
      | none => rw [h1, h2] at h; cases h
      | some ys =>
        rw [h1, h2] at h
        dsimp only at h
        split at h
        · rename_i hl
          exact .inr (.inr (.inr (.inr (lists h1 h2 hl (Option.some.inj h)))))
        · cases h
  unfold opAdd at h
  split at h
  · rename_i i j
    cases h
    cases (show _ = _ from rx)
    cases (show _ = _ from ry)
    exact .inl ⟨i, j, rfl, rfl, k M _ H Ext.refl rh rfl⟩
  · rename_i a b
    cases (show _ = _ from rx)
    cases (show _ = _ from ry)
    split at h
    · rename_i hl
      cases h
      exact .inr (.inl ⟨a, b, rfl, rfl, hl, k M _ H Ext.refl rh rfl⟩)
    · cases h
  · rename_i xs ys
    split at h
    · rename_i hl
      cases h
      obtain ⟨p, vs, rfl, p1, p2⟩ := tup_ok rh rx
      obtain ⟨q, ws, rfl, q1, q2⟩ := tup_ok rh ry
      by_cases hv : vs = []
      · subst hv
        have hx : xs = [] := by
          have := p2.len
          simpa using this
        subst hx
        exact .inr (.inr (.inr (.inl ⟨p, q, ws, rfl, rfl, p1, q1, k M _ H Ext.refl rh (by simpa using ry)⟩)))
      · refine .inr (.inr (.inl ⟨p, q, vs, ws, rfl, rfl, p1, q1, hv, len_line p2 q2 hl, fun e => ?_, fun _ a ha => ?_⟩))
        · subst e
          have hy : ys = [] := by
            have := q2.len
            simpa using this
          subst hy
          exact k M _ H Ext.refl rh (by simpa using rx)
        · obtain ⟨M', e1, e2, e3⟩ := Ext.tupNew rh ha (p2.append q2)
          exact k M' _ _ e1 e2 e3
    · cases h
  · exact gen h
/-- k * a list, whatever its object's dict and slots -/
theorem rmul_listW (a : Int) (t : Tok) (l : Addr) (vs : Array Value) (n : Nat) (dd : Option Addr) (sl : Array (Option Value)) :
    Meets (Builtin.«int.__rmul__» ⟨[.int a t, .ref l], []⟩) (fun _ R s => s.heap.get? l = some { cls := .type "list", dict := dd, data := .seq vs n, slots := sl } ∧ R (.ok (.ret Value.notImplemented)) s) :=
  .of_wp fun prog w A R s h => by
    obtain ⟨hp, g, d, tk, os⟩ := s
    obtain ⟨hl, h⟩ := h
    wp_walk using wpAny_loadPart' hl
    exact ⟨_, rfl, h⟩
theorem list_mulW (l : Addr) (vs : Array Value) (n : Nat) (dd : Option Addr) (sl : Array (Option Value)) (x : Int) (u : Tok) (f0 : ¬(!Builtin.List.listFitsIndex x) = true) (f1 : ¬vs.size * x.toNat > (2 ^ 63 - 1) / 8) (f2 : ¬Builtin.List.listTooLong (vs.size * x.toNat) = true) :
    Meets (Builtin.«list.__mul__» ⟨[.ref l, .int x u], []⟩) (fun _ R s => s.heap.get? l = some { cls := .type "list", dict := dd, data := .seq vs n, slots := sl } ∧
      R (.ok (.ret (Value.ref s.heap.objs.size))) { s with heap := s.heap.push { cls := Value.type "list", data := Data.seq (List.foldl (fun x1 x2 => x1 ++ x2) #[] (List.replicate (if vs.isEmpty = true then 0 else x.toNat) vs)) }, toks := s.toks }) :=
  .of_wp fun prog w A R s h => by
    obtain ⟨hp, g, d, tk, os⟩ := s
    obtain ⟨hl, h⟩ := h
    have hz := PySem.AutoListH.joined_fits f2
    wp_walk using wpAny_loadPart' hl
    refine wpAny_ite_false (decide_eq_false (Nat.not_lt.mpr hz)) ?_
    wp_walk using wpAny_loadPart' hl
    exact ⟨_, rfl, h⟩
def rRepR (K : PySem.W.Frag) : R2 := fun x y H Q => ∃ l k xs, x = .ref l ∧ y = .int k ∧ SqL K H l xs ∧ -(2 ^ 63) ≤ k ∧ k < 2 ^ 63 ∧ xs.length * k.toNat ≤ sizeLine ∧
  ∀ p, H p = none → Q (.ref p) (upd H p (.lst (List.replicate k.toNat xs).flatten))
theorem op_repR : OpR X (binaryOp .Mult) (rRepR X.K) := by
  intro pins s z H x y v u Q I rx ry h
  obtain ⟨l, k, xs, rfl, rfl, hH, h1, h2, hz, q⟩ := h
  cases rx
  obtain ⟨t, rfl⟩ := ry
  obtain ⟨its, r, ⟨⟨cls, dd, data, sl⟩, n, e, hc, hdn, hdt⟩, zl⟩ := I.list hH
  simp only at hc hdn hdt
  subst hc hdn hdt
  have hl := r.length
  have hlen : its.toArray.size * k.toNat ≤ sizeLine := by rw [List.size_toArray, ← hl]; exact hz
  have hcap : ¬ its.toArray.size * k.toNat > (2 ^ 63 - 1) / 8 := by
    have : (sizeLine : Nat) ≤ (2 ^ 63 - 1) / 8 := by decide
    omega
  have hfit : ¬ (!Builtin.List.listFitsIndex k) = true := by
    rw [fitsIndex_both h1 h2]
    exact Bool.false_ne_true
  have hlong : ¬ Builtin.List.listTooLong (its.toArray.size * k.toNat) = true := by
    rw [notLongL hlen]
    exact Bool.false_ne_true
  have hnew : List.foldl (fun x1 x2 => x1 ++ x2) #[] (List.replicate (if its.toArray.isEmpty = true then 0 else k.toNat) its.toArray) = (List.replicate k.toNat its).flatten.toArray := by
    have f0 : ∀ m : Nat, List.foldl (fun x1 x2 => x1 ++ x2) #[] (List.replicate m its.toArray) = (List.replicate m its).flatten.toArray := fun m => by
      have w := foldl_rep its m []
      rw [List.nil_append] at w
      exact w
    rw [f0]
    cases its with
    | nil => simp
    | cons a r' => rw [if_neg (by simp)]
  refine wpAny_binaryOp_repeat_ref (T := "list") (U := "int") (by decide) ⟨_, e, rfl⟩ (fun s' => typeIs_int s' k t) noFill_list_mul F.fills_int_mul F.slot_int_rmul repeat_list F.slot_int_index.lookup
    (call_meets F.slot_int_rmul (typeIs_int s k t) F.entry_int_rmul (F.args_int_rmul_2 _ _) (rmul_listW k t l its.toArray n none sl)
      ⟨e, rfl, ⟨_, e, rfl⟩, call_meets F.slot_list_mul ⟨_, e, rfl⟩ F.entry_list_mul (F.args_list_mul_2 _ _) (list_mulW l its.toArray n none sl k t hfit hcap hlong) ⟨e, ?_⟩⟩)
  rw [hnew]
  exact ⟨.ref _, _, I.lnew (t' := s.toks) (r.rep k.toNat) (by rw [PyProof.Rows.lm_len_rep_flat, Nat.mul_comm]; exact hz), rfl, q _ I.fresh⟩
def rMulA (K : PySem.W.Frag) : R2 := fun x y H Q => (fun x y H Q => rI CMul (fun i j => .int (i * j)) x y H Q ∨ rRepR K x y H Q) x y H Q ∨ L2.rRepT K x y H Q
theorem op_mulA : OpR X (binaryOp .Mult) (rMulA X.K) := (op_mul.or op_repR).or L2.op_repT
theorem ops_mul {G : Gx} : OpS G (rMulA G.K) opMul := by
  intro M S H x y z v u Q rh rx ry h k
  unfold opMul at h
  split at h
  · rename_i i j
    split at h
    · rename_i hm
      cases h
      cases (show _ = _ from rx)
      cases (show _ = _ from ry)
      refine .inl (.inl ⟨i, j, rfl, rfl, ?_, k M _ H Ext.refl rh rfl⟩)
      unfold mulOk at hm
      simpa [CMul] using hm
    · cases h
  · rename_i xs j
    split at h
    · rename_i hc
      cases h
      cases (show _ = _ from ry)
      simp only [Bool.and_eq_true, decide_eq_true_eq, Bool.not_eq_true', List.isEmpty_eq_false_iff] at hc
      obtain ⟨⟨⟨h1, h2⟩, h3⟩, h4⟩ := hc
      obtain ⟨p, vs, rfl, q1, q2⟩ := rx
      have hq : SqT G.K H p vs := by
        rcases q1 with q1 | q1
        · exact .inl (.inl (rh.tup p vs q1))
        · rcases q1 with z | z
          · rcases z with z | ⟨_, z⟩ <;> cases z
          · exact .inr z
      refine .inr ⟨p, j, vs, rfl, rfl, hq, fun z => h1 ?_, h2, h3, by rw [← q2.len]; exact h4, fun a ha => ?_⟩
      · rw [z] at q2
        have := q2.len
        exact List.length_eq_zero_iff.mp this
      · obtain ⟨M', e1, e2, e3⟩ := Ext.tupNew rh ha (q2.repl j.toNat)
        exact k M' _ _ e1 e2 e3
    · cases h
  · rename_i j _ _
    cases (show _ = _ from ry)
    cases h1 : listOf S x with
    | none => rw [h1] at h; cases h
    | some xs =>
      rw [h1] at h
      dsimp only at h
      split at h
      · rename_i hl
        cases h
        obtain ⟨p, vs, rfl, p1, p2⟩ := listOf_ok rh rx h1
        simp only [Bool.and_eq_true, decide_eq_true_eq] at hl
        refine .inl ?_
        refine .inr ⟨p, j, vs, rfl, rfl, p1, hl.1.1, hl.1.2, by rw [← p2.len]; exact hl.2, fun a ha => ?_⟩
        obtain ⟨M', e1, e2, e3⟩ := Ext.lstNew rh ha (p2.repl j.toNat)
        exact k M' _ _ e1 e2 e3
      · cases h
  · cases h
theorem ops_sub {G : Gx} : OpS G (rI0 fun i j => .int (i - j)) (fun _ => opSub) := by
  intro M S H x y z v u Q rh rx ry h k
  dsimp only [opSub] at h
  split at h
  · cases h
    cases (show _ = _ from rx)
    cases (show _ = _ from ry)
    exact ⟨_, _, rfl, rfl, k M _ H Ext.refl rh rfl⟩
  · cases h
theorem ops_div {G : Gx} : OpS G (rI CDiv fun i j => .int (i / j)) (fun _ => opDiv) := by
  intro M S H x y z v u Q rh rx ry h k
  dsimp only [opDiv] at h
  split at h
  · split at h
    · rename_i hc
      cases h
      cases (show _ = _ from rx)
      cases (show _ = _ from ry)
      exact ⟨_, _, rfl, rfl, by simpa [CDiv] using hc, k M _ H Ext.refl rh rfl⟩
    · cases h
  · cases h
theorem ops_mod {G : Gx} : OpS G (rI (fun _ j => 0 < j) fun i j => .int (i % j)) (fun _ => opMod) := by
  intro M S H x y z v u Q rh rx ry h k
  dsimp only [opMod] at h
  split at h
  · split at h
    · rename_i hc
      cases h
      cases (show _ = _ from rx)
      cases (show _ = _ from ry)
      exact ⟨_, _, rfl, rfl, by simpa using hc, k M _ H Ext.refl rh rfl⟩
    · cases h
  · cases h
theorem ops_pow {G : Gx} : OpS G (rI CPow fun i j => .int (i ^ j.toNat)) (fun _ => opPow) := by
  intro M S H x y z v u Q rh rx ry h k
  dsimp only [opPow] at h
  split at h
  · split at h
    · rename_i hc
      cases h
      cases (show _ = _ from rx)
      cases (show _ = _ from ry)
      simp only [Bool.and_eq_true, decide_eq_true_eq] at hc
      exact ⟨_, _, rfl, rfl, ⟨hc.1.1, hc.1.2, hc.2⟩, k M _ H Ext.refl rh rfl⟩
    · cases h
  · cases h
/-! ### comparisons -/
def OpB (G : Gx) (r : R2) (f : Store → D → D → Option Bool) : Prop := ∀ (M : Mp) (S : Store) (H : Hp) (x y : D) (b : Bool) (v u : V) (Q : VK), RelH G M S H → RelD G M x v → RelD G M y u → f S x y = some b → Q (.bl b) H → r v u H Q
theorem dp_flat {G : Gx} {M : Mp} {S : Store} {H : Hp} (rh : RelH G M S H) {k : Nat} {x : D} {v : V} (h : D.pl k (flatL S x) = true) (r : RelD G M x v) : Dp G.K H v (flatL S x).P := by
  cases x with
  | ref l =>
    dsimp only [flatL] at h ⊢
    cases q : S[l]? with
    | none => rw [q] at h; cases k <;> simp [D.pl] at h
    | some o =>
      rw [q] at h
      cases o with
      | lst xs =>
        dsimp only at h ⊢
        obtain ⟨a, rfl, e1⟩ := r
        obtain ⟨b, e2, vs, e3, e4⟩ := rh.obj l _ q
        rw [e1] at e2; cases e2
        cases k with
        | zero => simp [D.pl] at h
        | succ k =>
          simp only [D.P]
          exact .lst (xs := vs) (.inl (.inl e3)) (RelDs.dps rh (k := k) (by simpa [D.pl] using h) e4)
      | ins _ _ => cases k <;> simp [D.pl] at h
      | dct _ _ => cases k <;> simp [D.pl] at h
  | _ => exact RelD.dp rh h r
theorem opb_eq {G : Gx} : OpB G (rEqD G.K) cmpEq := by
  intro M S H x y b v u Q rh rx ry h k
  unfold cmpEq at h
  split at h
  · rename_i hc
    simp only [Bool.and_eq_true] at hc
    cases h
    refine ⟨_, _, dp_flat rh hc.1 rx, dp_flat rh hc.2 ry, shaped_of hc.1, shaped_of hc.2, ?_⟩
    rw [eqv_of _ _ hc.1 hc.2]
    exact k
  · cases h
theorem opb_ne {G : Gx} : OpB G (rNeD G.K) cmpNe := by
  intro M S H x y b v u Q rh rx ry h k
  unfold cmpNe at h
  split at h
  · rename_i hc
    simp only [Bool.and_eq_true] at hc
    cases h
    refine ⟨_, _, dp_flat rh hc.1 rx, dp_flat rh hc.2 ry, shaped_of hc.1, shaped_of hc.2, ?_⟩
    rw [eqv_of _ _ hc.1 hc.2]
    exact k
  · cases h
theorem opb_int {G : Gx} (p : Int → Int → Bool) : OpB G (rI0 fun i j => .bl (p i j)) (fun _ => cmpI p) := by
  intro M S H x y b v u Q rh rx ry h k
  dsimp only [cmpI] at h
  split at h
  · cases h
    cases (show _ = _ from rx)
    cases (show _ = _ from ry)
    exact ⟨_, _, rfl, rfl, k⟩
  · cases h
/-- < of data that are alike -/
def rLtD (K : PySem.W.Frag) : R2 := fun x y H Q => ∃ d e, Dp K H x d ∧ Dp K H y e ∧ d.depth ≤ 64 ∧ PySem.W.alike d e = true ∧ d ≠ .none ∧ Q (.bl (PySem.W.dataLt d e)) H
theorem op_ltD (hu : X.A.units + 64 < cLine) : OpR X (compareOp .Lt) (rLtD X.K) := by
  intro pins s z H x y v u Q I rx ry h
  obtain ⟨d, e, hd, he, h1, h2, h3, q⟩ := h
  obtain ⟨as, r1⟩ := Dp.reads I d x v hd rx
  obtain ⟨bs, r2⟩ := Dp.reads I e y u he ry
  exact PySem.W.rcLt_alike d e X.A s v u as bs r1 r2 h2 h3 (by omega) X.prog X.w X.xe _ ⟨.bl _, H, I, rfl, q⟩
theorem opb_lt {G : Gx} : OpB G (rLtD G.K) (fun _ => cmpLt) := by
  intro M S H x y b v u Q rh rx ry h k
  dsimp only [cmpLt] at h
  split at h
  · rename_i hc
    cases h
    unfold ltOk at hc
    simp only [Bool.and_eq_true] at hc
    obtain ⟨⟨⟨h1, h2⟩, h3⟩, h4⟩ := hc
    refine ⟨_, _, RelD.dp rh h1 rx, RelD.dp rh h2 ry, (P_lay h1).2, h3, ?_, k⟩
    cases x <;> simp_all [D.P]
  · cases h
theorem se_cmp {op : CmpOp} {r : R2} {f : Store → D → D → Option Bool} {W : WX} {a b : Expr} {da db : DE} {pos : Pos} (ho : OpR X (compareOp op) r) (hf : OpB (gx X) r f) (ha : SE X W a da) (hb : SE X W b db) (hm : behindInMarks op b = false) :
    SE X W (.Compare a [op] [b] pos) (eCmp f da db) := by
  refine (pe_cmpR ho ha hb hm).dimp ?_
  rintro s H Q ⟨M, r, S, en, rh, p⟩
  refine ⟨M, r, S, en, rh, (bind2 en p).imp fun v H1 h => ?_⟩
  obtain ⟨M1, S1, e1, rh1, en1, p1⟩ := h
  refine ⟨M1, r, S1, en1, rh1, p1.imp fun u H2 h => ?_⟩
  obtain ⟨M2, x, y, S2, e2, rh2, en2, rd1, rd2, p2⟩ := h
  cases q : f S2 x y with
  | none => rw [q] at p2; exact p2.elim
  | some z =>
    rw [q] at p2
    exact hf M2 S2 H2 x y z v u Q rh2 rd1 rd2 q (p2 M2 _ H2 Ext.refl rh2 rfl)
/-- x is None, x is not None -/
theorem se_isN {W : WX} {a : Expr} {da : DE} {pos pos' : Pos} {j} (ha : SE X W a da) : SE X W (.Compare a [.Is] [.Constant .none j pos'] pos) (eCmp1 cmpIsN da) := by
  refine (pe_cmp (pc_isN ha) rfl).dimp ?_
  rintro s H Q ⟨M, r, S, en, rh, p⟩
  refine ⟨M, r, S, en, rh, p.bind.imp fun v H1 h => ?_⟩
  obtain ⟨M1, x, S1, e1, rh1, rd1, p1⟩ := h
  have e : ((cmpIsN x).map D.bl) = some (D.bl (decide (v = .non))) := by
    cases x with
    | non => cases (show _ = _ from rd1); rfl
    | bl _ => cases (show _ = _ from rd1); rfl
    | int _ => cases (show _ = _ from rd1); rfl
    | str _ => cases (show _ = _ from rd1); rfl
    | tup _ => obtain ⟨_, _, rfl, _⟩ := rd1; rfl
    | lst _ => obtain ⟨_, _, rfl, _⟩ := rd1; rfl
    | ref _ => obtain ⟨_, rfl, _⟩ := rd1; rfl
    | cls _ => obtain ⟨_, rfl, _⟩ := rd1; rfl
    | fn _ => obtain ⟨_, rfl, _⟩ := rd1; rfl
  rw [e] at p1
  exact p1 M1 _ H1 Ext.refl rh1 rfl
theorem se_notN {W : WX} {a : Expr} {da : DE} {pos pos' : Pos} {j} (ha : SE X W a da) : SE X W (.Compare a [.IsNot] [.Constant .none j pos'] pos) (eCmp1 (fun x => (cmpIsN x).map (!·)) da) := by
  refine (pe_cmp (pc_notN ha) rfl).dimp ?_
  rintro s H Q ⟨M, r, S, en, rh, p⟩
  refine ⟨M, r, S, en, rh, p.bind.imp fun v H1 h => ?_⟩
  obtain ⟨M1, x, S1, e1, rh1, rd1, p1⟩ := h
  have e : (((cmpIsN x).map (!·)).map D.bl) = some (D.bl (!decide (v = .non))) := by
    cases x with
    | non => cases (show _ = _ from rd1); rfl
    | bl _ => cases (show _ = _ from rd1); rfl
    | int _ => cases (show _ = _ from rd1); rfl
    | str _ => cases (show _ = _ from rd1); rfl
    | tup _ => obtain ⟨_, _, rfl, _⟩ := rd1; rfl
    | lst _ => obtain ⟨_, _, rfl, _⟩ := rd1; rfl
    | ref _ => obtain ⟨_, rfl, _⟩ := rd1; rfl
    | cls _ => obtain ⟨_, rfl, _⟩ := rd1; rfl
    | fn _ => obtain ⟨_, rfl, _⟩ := rd1; rfl
  rw [e] at p1
  exact p1 M1 _ H1 Ext.refl rh1 rfl
/-- a chain of two comparisons -/
theorem chain_t {G : Gx} {r r' : R2} {f g : Store → D → D → Option Bool} {W : WX} {da db dc : DE} {s : L2.St} {H : Hp} {Q : VK} (hf : OpB G r f) (hg : OpB G r' g) (h : tE G W (eChain f g da db dc) s H Q) : tChain r r' (tE G W da) (tE G W db) (tE G W dc) s H Q := by
  obtain ⟨M, r, S, en, rh, p⟩ := h
  refine ⟨M, r, S, en, rh, (bind2 en p).imp fun v H1 h => ?_⟩
  obtain ⟨M1, S1, e1, rh1, en1, p1⟩ := h
  refine ⟨M1, r, S1, en1, rh1, p1.imp fun u H2 h => ?_⟩
  obtain ⟨M2, x, y, S2, e2, rh2, en2, rd1, rd2, p2⟩ := h
  cases q : f S2 x y with
  | none => rw [q] at p2; exact p2.elim
  | some z =>
    rw [q] at p2
    refine hf M2 S2 H2 x y z v u _ rh2 rd1 rd2 q ⟨z, rfl, ?_⟩
    cases z with
    | false => exact p2 M2 _ H2 Ext.refl rh2 rfl
    | true =>
      refine ⟨M2, r, S2, en2, rh2, (Post.bind (R := RD G) p2).imp fun w H3 h => ?_⟩
      obtain ⟨M3, zz, S3, e3, rh3, rd3, p3⟩ := h
      cases q3 : g S3 y zz with
      | none => rw [q3] at p3; exact p3.elim
      | some z3 =>
        rw [q3] at p3
        exact hg M3 S3 H3 y zz z3 u w Q rh3 (rd2.mono e3) rd3 q3 (p3 M3 _ H3 Ext.refl rh3 rfl)
/-! ### tests -/
variable {W : WX} {a b c e : Expr} {da db dc : DE} {ta tb : DT} {pos : Pos} {es : List Expr}
theorem se_chain {op op' : CmpOp} {r r' : R2} {f g : Store → D → D → Option Bool} {W : WX} {a b c : Expr} {da db dc : DE} {pos : Pos} (hf : OpB (gx X) r f) (hg : OpB (gx X) r' g)
    (hm : PE X (.Compare a [op, op'] [b, c] pos) (tChain r r' (tE (gx X) W da) (tE (gx X) W db) (tE (gx X) W dc))) :
    SE X W (.Compare a [op, op'] [b, c] pos) (eChain f g da db dc) := hm.dimp fun _ _ _ => chain_t hf hg
theorem st_val (h : SE X W a da) (he : ∀ whole, isTrue a X.env whole = (do let v ← whole; standAt a.pos; holding [v] (truthy v))) : ST X W a (tOfB da) := by
  refine (pt_val h he).dimp ?_
  rintro s H Q ⟨M, r, S, en, rh, p⟩
  refine ⟨M, r, S, en, rh, p.bind.imp fun v H1 h => ?_⟩
  obtain ⟨M1, x, S1, e1, rh1, rd1, p1⟩ := h
  cases x with
  | bl b =>
    cases (show _ = _ from rd1)
    exact ⟨b, rfl, p1 M1 b H1 Ext.refl rh1 rfl⟩
  | _ => exact p1.elim
/-- a comparison as a test -/
theorem st_cmp {op : CmpOp} {r : R2} {f : Store → D → D → Option Bool} (ho : OpR X (compareOp op) r) (hf : OpB (gx X) r f) (ha : SE X W a da) (hb : SE X W b db) (hm : behindInMarks op b = false) : ST X W (.Compare a [op] [b] pos) (tOfB (eCmp f da db)) := by
  refine (pt_cmpR ho ha hb hm).dimp ?_
  rintro s H Q ⟨M, r, S, en, rh, p⟩
  have p' : Post (gx X) RB W M H s ((da r S).bind fun x S => (db r S).bind fun y S => Rs.ofO (f S x y) S) Q := by
    have e : tOfB (eCmp f da db) r S = ((da r S).bind fun x S => (db r S).bind fun y S => Rs.ofO (f S x y) S) := by
      unfold tOfB eCmp
      cases da r S with
      | ok x S1 =>
        dsimp only [Rs.bind]
        cases db r S1 with
        | ok y S2 =>
          dsimp only [Rs.bind]
          cases f S2 x y <;> rfl
        | exc _ _ _ => rfl
        | bad => rfl
      | exc _ _ _ => rfl
      | bad => rfl
    rw [← e]
    exact p
  refine ⟨M, r, S, en, rh, (bind2 en p').imp fun v H1 h => ?_⟩
  obtain ⟨M1, S1, e1, rh1, en1, p1⟩ := h
  refine ⟨M1, r, S1, en1, rh1, p1.imp fun u H2 h => ?_⟩
  obtain ⟨M2, x, y, S2, e2, rh2, en2, rd1, rd2, p2⟩ := h
  cases q : f S2 x y with
  | none => rw [q] at p2; exact p2.elim
  | some z =>
    rw [q] at p2
    exact hf M2 S2 H2 x y z v u _ rh2 rd1 rd2 q ⟨z, rfl, p2 M2 z H2 Ext.refl rh2 rfl⟩
theorem st_isN {pos' : Pos} {j} (ha : SE X W a da) : ST X W (.Compare a [.Is] [.Constant .none j pos'] pos) (tOfB (eCmp1 cmpIsN da)) := by
  refine (pt_cmp (pc_isN ha) rfl).dimp ?_
  rintro s H Q ⟨M, r, S, en, rh, p⟩
  have e : tOfB (eCmp1 cmpIsN da) r S = ((da r S).bind fun x S => Rs.ofO (cmpIsN x) S) := by
    unfold tOfB eCmp1
    cases da r S with
    | ok x S1 => dsimp only [Rs.bind]; cases cmpIsN x <;> rfl
    | exc _ _ _ => rfl
    | bad => rfl
  rw [e] at p
  refine ⟨M, r, S, en, rh, p.bind.imp fun v H1 h => ?_⟩
  obtain ⟨M1, x, S1, e1, rh1, rd1, p1⟩ := h
  have e : cmpIsN x = some (decide (v = .non)) := by
    cases x with
    | non => cases (show _ = _ from rd1); rfl
    | bl _ => cases (show _ = _ from rd1); rfl
    | int _ => cases (show _ = _ from rd1); rfl
    | str _ => cases (show _ = _ from rd1); rfl
    | tup _ => obtain ⟨_, _, rfl, _⟩ := rd1; rfl
    | lst _ => obtain ⟨_, _, rfl, _⟩ := rd1; rfl
    | ref _ => obtain ⟨_, rfl, _⟩ := rd1; rfl
    | cls _ => obtain ⟨_, rfl, _⟩ := rd1; rfl
    | fn _ => obtain ⟨_, rfl, _⟩ := rd1; rfl
  rw [e] at p1
  exact ⟨_, rfl, p1 M1 _ H1 Ext.refl rh1 rfl⟩
theorem st_notN {pos' : Pos} {j} (ha : SE X W a da) : ST X W (.Compare a [.IsNot] [.Constant .none j pos'] pos) (tOfB (eCmp1 (fun x => (cmpIsN x).map (!·)) da)) := by
  refine (pt_cmp (pc_notN ha) rfl).dimp ?_
  rintro s H Q ⟨M, r, S, en, rh, p⟩
  have e : tOfB (eCmp1 (fun x => (cmpIsN x).map (!·)) da) r S = ((da r S).bind fun x S => Rs.ofO ((cmpIsN x).map (!·)) S) := by
    unfold tOfB eCmp1
    cases da r S with
    | ok x S1 => dsimp only [Rs.bind]; cases cmpIsN x <;> rfl
    | exc _ _ _ => rfl
    | bad => rfl
  rw [e] at p
  refine ⟨M, r, S, en, rh, p.bind.imp fun v H1 h => ?_⟩
  obtain ⟨M1, x, S1, e1, rh1, rd1, p1⟩ := h
  have e : (cmpIsN x).map (!·) = some (!decide (v = .non)) := by
    cases x with
    | non => cases (show _ = _ from rd1); rfl
    | bl _ => cases (show _ = _ from rd1); rfl
    | int _ => cases (show _ = _ from rd1); rfl
    | str _ => cases (show _ = _ from rd1); rfl
    | tup _ => obtain ⟨_, _, rfl, _⟩ := rd1; rfl
    | lst _ => obtain ⟨_, _, rfl, _⟩ := rd1; rfl
    | ref _ => obtain ⟨_, rfl, _⟩ := rd1; rfl
    | cls _ => obtain ⟨_, rfl, _⟩ := rd1; rfl
    | fn _ => obtain ⟨_, rfl, _⟩ := rd1; rfl
  rw [e] at p1
  exact ⟨_, rfl, p1 M1 _ H1 Ext.refl rh1 rfl⟩
theorem st_not (ha : ST X W a ta) : ST X W (.UnaryOp .Not a pos) (tNotD ta) := by
  refine (pt_not ha).dimp ?_
  rintro s H Q ⟨M, r, S, en, rh, p⟩
  refine ⟨M, r, S, en, rh, p.bind.imp fun v H1 h => ?_⟩
  obtain ⟨M1, x, S1, e1, rh1, rd1, p1⟩ := h
  cases rd1
  exact p1 M1 _ H1 Ext.refl rh1 rfl
/-- and, or: PW -/
abbrev SW (X : Cx) (W : WX) (e : Expr) (d : DT) : Prop := PW X e (tT (gx X) W d)
theorem L2PW_dimp {t t' : TT} (h : PW X e t) (k : ∀ s H Q, t' s H Q → t s H Q) : PW X e t' := ⟨fun w pins st s H Q I q => h.run w pins st s H Q I (k s H Q q)⟩
theorem sw_and1 (ha : ST X W a ta) : SW X W (.BoolOp .And [a] pos) ta := pw_and1 ha
theorem sw_or1 (ha : ST X W a ta) : SW X W (.BoolOp .Or [a] pos) ta := pw_or1 ha
theorem sw_and {rest : List Expr} (ha : ST X W a ta) (hb : SW X W (.BoolOp .And (b :: rest) pos) tb) : SW X W (.BoolOp .And (a :: b :: rest) pos) (tAndD ta tb) := by
  refine L2PW_dimp (pw_and ha hb) ?_
  rintro s H Q ⟨M, r, S, en, rh, p⟩
  refine ⟨M, r, S, en, rh, p.bind.imp fun v H1 h => ?_⟩
  obtain ⟨M1, x, S1, e1, rh1, rd1, p1⟩ := h
  obtain rfl : x = v := rd1
  cases x with
  | true => exact ⟨M1, r, S1, en.mono e1, rh1, p1⟩
  | false => exact p1 M1 _ H1 Ext.refl rh1 rfl
theorem sw_or {rest : List Expr} (ha : ST X W a ta) (hb : SW X W (.BoolOp .Or (b :: rest) pos) tb) : SW X W (.BoolOp .Or (a :: b :: rest) pos) (tOrD ta tb) := by
  refine L2PW_dimp (pw_or ha hb) ?_
  rintro s H Q ⟨M, r, S, en, rh, p⟩
  refine ⟨M, r, S, en, rh, p.bind.imp fun v H1 h => ?_⟩
  obtain ⟨M1, x, S1, e1, rh1, rd1, p1⟩ := h
  obtain rfl : x = v := rd1
  cases x with
  | true => exact p1 M1 _ H1 Ext.refl rh1 rfl
  | false => exact ⟨M1, r, S1, en.mono e1, rh1, p1⟩
theorem st_w (h : SW X W e ta) : ST X W e ta := h.pt
/-! ### and, or, not as values; a if t else b -/
theorem se_one {op} (h : SE X W a da) : SE X W (.BoolOp op [a] pos) da := pe_one h
theorem se_and {rest : List Expr} (ha : SE X W a da) (hb : SE X W (.BoolOp .And (b :: rest) pos) db) : SE X W (.BoolOp .And (a :: b :: rest) pos) (eAnd da db) := by
  refine (pe_and ha hb).dimp ?_
  rintro s H Q ⟨M, r, S, en, rh, p⟩
  refine ⟨M, r, S, en, rh, p.bind.imp fun v H1 h => ?_⟩
  obtain ⟨M1, x, S1, e1, rh1, rd1, p1⟩ := h
  cases x with
  | bl c =>
    cases (show _ = _ from rd1)
    refine ⟨c, rfl, ?_⟩
    cases c with
    | true => exact ⟨M1, r, S1, en.mono e1, rh1, p1⟩
    | false => exact p1 M1 _ H1 Ext.refl rh1 rfl
  | _ => exact p1.elim
theorem se_or {rest : List Expr} (ha : SE X W a da) (hb : SE X W (.BoolOp .Or (b :: rest) pos) db) : SE X W (.BoolOp .Or (a :: b :: rest) pos) (eOr da db) := by
  refine (pe_or ha hb).dimp ?_
  rintro s H Q ⟨M, r, S, en, rh, p⟩
  refine ⟨M, r, S, en, rh, p.bind.imp fun v H1 h => ?_⟩
  obtain ⟨M1, x, S1, e1, rh1, rd1, p1⟩ := h
  cases x with
  | bl c =>
    cases (show _ = _ from rd1)
    refine ⟨c, rfl, ?_⟩
    cases c with
    | false => exact ⟨M1, r, S1, en.mono e1, rh1, p1⟩
    | true => exact p1 M1 _ H1 Ext.refl rh1 rfl
  | _ => exact p1.elim
theorem se_not (ha : SE X W a da) : SE X W (.UnaryOp .Not a pos) (eNot da) := by
  refine (pe_not ha).dimp ?_
  rintro s H Q ⟨M, r, S, en, rh, p⟩
  refine ⟨M, r, S, en, rh, p.bind.imp fun v H1 h => ?_⟩
  obtain ⟨M1, x, S1, e1, rh1, rd1, p1⟩ := h
  cases x with
  | bl c =>
    cases (show _ = _ from rd1)
    exact ⟨c, rfl, p1 M1 _ H1 Ext.refl rh1 rfl⟩
  | _ => exact p1.elim
theorem se_neg (ha : SE X W a da) : SE X W (.UnaryOp .USub a pos) (eUn opNeg da) := by
  refine (pe_un un_neg ha).dimp ?_
  rintro s H Q ⟨M, r, S, en, rh, p⟩
  refine ⟨M, r, S, en, rh, p.bind.imp fun v H1 h => ?_⟩
  obtain ⟨M1, x, S1, e1, rh1, rd1, p1⟩ := h
  cases x with
  | int c =>
    cases (show _ = _ from rd1)
    exact ⟨c, rfl, p1 M1 _ H1 Ext.refl rh1 rfl⟩
  | _ => exact p1.elim
theorem se_if (hc : ST X W c ta) (ha : SE X W a da) (hb : SE X W b db) : SE X W (.IfExp c a b pos) (eIf ta da db) := by
  refine (pe_ifExp hc ha hb).dimp ?_
  rintro s H Q ⟨M, r, S, en, rh, p⟩
  refine ⟨M, r, S, en, rh, p.bind.imp fun v H1 h => ?_⟩
  obtain ⟨M1, x, S1, e1, rh1, rd1, p1⟩ := h
  obtain rfl : x = v := rd1
  cases x with
  | true => exact ⟨M1, r, S1, en.mono e1, rh1, p1⟩
  | false => exact ⟨M1, r, S1, en.mono e1, rh1, p1⟩
/-! ### arguments, displays -/
variable {ds : DA}
theorem sa_nil : SA X W [] aNil := by
  refine pa_nil.dimp ?_
  rintro s H Q ⟨M, r, S, en, rh, p⟩
  exact p M [] H Ext.refl rh rfl
theorem sa_cons (ha : SE X W e da) (hb : SA X W es ds) (hs : starEach (e :: es) X.env = (false, eval e X.env) :: starEach es X.env := by rfl) : SA X W (e :: es) (aCons da ds) := by
  refine (pa_cons ha hb hs).dimp ?_
  rintro s H Q ⟨M, r, S, en, rh, p⟩
  refine ⟨M, r, S, en, rh, p.bind.imp fun v H1 h => ?_⟩
  obtain ⟨M1, x, S1, e1, rh1, rd1, p1⟩ := h
  refine ⟨M1, r, S1, en.mono e1, rh1, (Post.bind (R := RA (gx X)) p1).imp fun vs H2 h => ?_⟩
  obtain ⟨M2, xs, S2, e2, rh2, rd2, p2⟩ := h
  exact p2 M2 _ H2 Ext.refl rh2 (RelDs.cons (rd1.mono e2) rd2)
theorem se_tup {k} (h : SA X W es ds) : SE X W (.Tuple es k pos) (eTup ds) := by
  refine (pe_tup h).dimp ?_
  rintro s H Q ⟨M, r, S, en, rh, p⟩
  refine ⟨M, r, S, en, rh, p.bind.imp fun vs H1 h => ?_⟩
  obtain ⟨M1, xs, S1, e1, rh1, rd1, p1⟩ := h
  split at p1
  · rename_i hl
    refine ⟨by rw [← rd1.len]; exact hl, fun q hq => ?_⟩
    obtain ⟨M', x1, x2, x3⟩ := Ext.tupNew rh1 hq rd1
    exact p1 M' _ _ x1 x2 x3
  · exact p1.elim
theorem se_lst (h : SA X W es ds) : SE X W (.List es pos) (eLst ds) := by
  refine (pe_lst h).dimp ?_
  rintro s H Q ⟨M, r, S, en, rh, p⟩
  refine ⟨M, r, S, en, rh, p.bind.imp fun vs H1 h => ?_⟩
  obtain ⟨M1, xs, S1, e1, rh1, rd1, p1⟩ := h
  split at p1
  · rename_i hl
    refine ⟨by rw [← rd1.len]; exact hl, fun q hq => ?_⟩
    obtain ⟨M', x1, x2, x3⟩ := Ext.lstNew rh1 hq rd1
    exact p1 M' _ _ x1 x2 x3
  · exact p1.elim
end
end Dn

end
section
set_option Elab.async false
set_option linter.all false
set_option maxRecDepth 100000
set_option maxHeartbeats 4000000
/-! The rules: lists and tuples as they stand; built-ins. -/
namespace Dn
open PySem PySem.Spec PyProof.Rows L2
variable [Tb]
/-- what stands at p -/
def SqR (G : Gx) (t : Bool) (H : Hp) (p : Addr) (vs : List V) : Prop := if t then SqT G.K H p vs else SqL G.K H p vs
theorem src_ok {G : Gx} {M : Mp} {S : Store} {H : Hp} {r : Rho} {s : L2.St} {c : Src} {v : V} {xs : List D} (rh : RelH G M S H) (en : EnvR G M H r s) (h : RSrc G s M H c v) (g : c.get r S = some xs) :
    ∃ p vs, v = .ref p ∧ SqR G c.isT H p vs ∧ RelDs G M xs vs := by
  cases c with
  | cst t ys =>
    have e : ys = xs := Option.some.inj g
    subst e
    cases t with
    | true =>
      obtain ⟨p, vs, rfl, h1, h2⟩ := tup_ok rh h
      exact ⟨p, vs, rfl, h1, h2⟩
    | false =>
      obtain ⟨p, vs, rfl, h1, h2⟩ := h
      exact ⟨p, vs, rfl, rh.sq h1, h2⟩
  | own i =>
    obtain ⟨a, rfl, h1⟩ := h
    dsimp only [Src.get] at g
    cases q : r[i]? with
    | none => rw [q] at g; cases g
    | some z =>
      rw [q] at g
      cases z with
      | own ys =>
        have e : ys = xs := Option.some.inj g
        subst e
        obtain ⟨v, e1, e2⟩ := en.sl i _ q
        rw [h1] at e1
        cases e1
        obtain ⟨b, vs, e3, e4, e5, _, _⟩ := e2
        cases e3
        exact ⟨a, vs, rfl, .inl (.inl e4), e5⟩
      | un => cases g
      | val _ => cases g
      | ownd _ _ => cases g
      | exc _ _ => cases g
      | lam => cases g
  | loc l =>
    obtain ⟨a, rfl, h1⟩ := h
    dsimp only [Src.get] at g
    cases q : S[l]? with
    | none => rw [q] at g; cases g
    | some z =>
      rw [q] at g
      cases z with
      | lst ys =>
        have e : ys = xs := Option.some.inj g
        subst e
        obtain ⟨b, e1, vs, e2, e3⟩ := rh.obj l _ q
        rw [h1] at e1; cases e1
        exact ⟨a, vs, rfl, .inl (.inl e2), e3⟩
      | ins _ _ => cases g
      | dct _ _ => cases g
theorem RSrc.mono {G : Gx} {M M' : Mp} {H H' : Hp} {s : L2.St} (e : Ext M H M' H') {c : Src} {v : V} (h : RSrc G s M H c v) : RSrc G s M' H' c v := by
  cases c with
  | cst t ys => cases t <;> exact RelD.mono e h
  | own i => exact h
  | loc l => exact RelD.mono (G := G) (d := .ref l) e h
section
variable {X : Cx} {W : WX} {a b c e : Expr} {da db dc : DE} {dl : DL} {pos : Pos}
theorem sl_e (h : SE X W a da) : SL X W a (lE da) := by
  refine h.dimp ?_
  rintro s H Q ⟨M, r, S, en, rh, p⟩
  refine ⟨M, r, S, en, rh, p.bind.imp fun v H1 h => ?_⟩
  obtain ⟨M1, x, S1, e1, rh1, rd1, p1⟩ := h
  cases q : srcOf S1 x with
  | none => rw [q] at p1; exact p1.elim
  | some c =>
    rw [q] at p1
    refine p1 M1 v H1 Ext.refl rh1 ?_
    cases x with
    | tup xs => cases q; exact rd1
    | lst xs => cases q; exact rd1
    | ref l =>
      dsimp only [srcOf] at q
      split at q
      · cases q; exact rd1
      · cases q
    | _ => cases q
theorem sl_own {i : Nat} {x : Str} (hN : X.N[i]? = some x) (hv : Vis X.env.scope x) (hd : (x == ("__debug__" : Str)) = false := by decide) (hcd : (x == ("__classdict__" : Str)) = false := by decide) : SL X W (.Name x pos) (lOwn i) := by
  refine (pe_var (i := i) hN hv hd hcd).dimp ?_
  rintro s H Q ⟨M, r, S, en, rh, p⟩
  unfold lOwn at p
  cases q : r[i]? with
  | none => rw [q] at p; exact p.elim
  | some z =>
    rw [q] at p
    obtain ⟨v, h1, h2⟩ := en.sl i z q
    cases z with
    | own d =>
      obtain ⟨a, vs, rfl, h3⟩ := h2
      exact ⟨.ref a, h1, p M _ H Ext.refl rh ⟨a, rfl, h1⟩⟩
    | un => exact p.elim
    | val _ => exact p.elim
    | ownd _ _ => exact p.elim
    | exc _ _ => exact p.elim
    | lam => exact p.elim
/-- a built-in of one list or tuple -/
def L1 (G : Gx) (r : List V → Hp → VK → Prop) (f : Bool → List D → Option D) : Prop := ∀ (M : Mp) (S : Store) (H : Hp) (t : Bool) (xs : List D) (p : Addr) (vs : List V) (z : D) (Q : VK), RelH G M S H → SqR G t H p vs → RelDs G M xs vs → f t xs = some z →
  (∀ M' w H', Ext M H M' H' → RelH G M' S H' → RelD G M' z w → Q w H') → r [.ref p] H Q
theorem se_l1 {r : List V → Hp → VK → Prop} {f : Bool → List D → Option D} (hf : L1 (gx X) r f) (hc : PE X e (tCB r (tCons (tL (gx X) W dl) tNil))) : SE X W e (eL1 f dl) := by
  refine hc.dimp ?_
  rintro s H Q ⟨M, r, S, en, rh, p⟩
  refine ⟨M, r, S, en, rh, (Post.bind (R := RSrc (gx X) s) p).imp fun v H1 h => ?_⟩
  obtain ⟨M1, c, S1, e1, rh1, rd1, p1⟩ := h
  cases q : c.get r S1 with
  | none => rw [q] at p1; exact p1.elim
  | some xs =>
    rw [q] at p1
    obtain ⟨p, vs, rfl, h1, h2⟩ := src_ok rh1 (en.mono e1) rd1 q
    cases q2 : f c.isT xs with
    | none =>
      have p1 : Post (gx X) (RD (gx X)) W M1 H1 s (Rs.ofO (f c.isT xs) S1) Q := p1
      rw [q2] at p1; exact p1.elim
    | some z =>
      have p1 : Post (gx X) (RD (gx X)) W M1 H1 s (Rs.ofO (f c.isT xs) S1) Q := p1
      rw [q2] at p1
      exact hf M1 S1 H1 c.isT xs p vs z Q rh1 h1 h2 q2 p1
theorem sq_or {G : Gx} {t : Bool} {H : Hp} {p : Addr} {vs : List V} (h : SqR G t H p vs) : SqL G.K H p vs ∨ SqT G.K H p vs := by
  cases t with
  | true => exact .inr h
  | false => exact .inl h
theorem l1_len {G : Gx} : L1 G (fun xs H Q => ∃ p ys, xs = [.ref p] ∧ (SqL G.K H p ys ∨ SqT G.K H p ys) ∧ Q (.int ys.length) H) (fun _ xs => some (.int xs.length)) := by
  intro M S H t xs p vs z Q rh h1 h2 hz k
  cases hz
  refine ⟨p, vs, rfl, sq_or h1, k M _ H Ext.refl rh ?_⟩
  rw [h2.len]
  rfl
/-- tuple(xs): of a tuple it is the tuple itself -/
theorem se_tupOf (hc : PE X e (tCB (fun xs H Q => ∃ p ys, xs = [.ref p] ∧ ((SqL X.K H p ys ∧ ∀ l, H l = none → Q (.ref l) (upd H l (.tup ys))) ∨ (SqT X.K H p ys ∧ Q (.ref p) H))) (tCons (tL (gx X) W dl) tNil))) : SE X W e (eTupOf dl) := by
  refine hc.dimp ?_
  rintro s H Q ⟨M, r, S, en, rh, p⟩
  refine ⟨M, r, S, en, rh, (Post.bind (R := RSrc (gx X) s) p).imp fun v H1 h => ?_⟩
  obtain ⟨M1, c, S1, e1, rh1, rd1, p1⟩ := h
  cases q : c.get r S1 with
  | none => rw [q] at p1; exact p1.elim
  | some xs =>
    rw [q] at p1
    have p1 : Post (gx X) (RD (gx X)) W M1 H1 s (.ok (.tup xs) S1) Q := p1
    obtain ⟨p, vs, rfl, h1, h2⟩ := src_ok rh1 (en.mono e1) rd1 q
    refine ⟨p, vs, rfl, ?_⟩
    have new : SqL X.K H1 p vs → (SqL X.K H1 p vs ∧ ∀ l, H1 l = none → Q (.ref l) (upd H1 l (.tup vs))) := fun h => ⟨h, fun l hl => by
      obtain ⟨M', x1, x2, x3⟩ := Ext.tupNew rh1 hl h2
      exact p1 M' _ _ x1 x2 x3⟩
    cases c with
    | cst t ys =>
      cases t with
      | true =>
        have e : ys = xs := Option.some.inj q
        subst e
        exact .inr ⟨h1, p1 M1 _ H1 Ext.refl rh1 rd1⟩
      | false => exact .inl (new h1)
    | own i => exact .inl (new h1)
    | loc l => exact .inl (new h1)
theorem l1_lst {G : Gx} : L1 G (fun xs H Q => ∃ p ys, xs = [.ref p] ∧ (SqL G.K H p ys ∨ SqT G.K H p ys) ∧ ∀ l, H l = none → Q (.ref l) (upd H l (.lst ys))) (fun _ xs => some (.lst xs)) := by
  intro M S H t xs p vs z Q rh h1 h2 hz k
  cases hz
  refine ⟨p, vs, rfl, sq_or h1, fun l hl => ?_⟩
  obtain ⟨M', e1, e2, e3⟩ := Ext.lstNew rh hl h2
  exact k M' _ _ e1 e2 e3
theorem bools_ok {G : Gx} {M : Mp} : ∀ {xs : List D} {vs : List V} {bs : List Bool}, RelDs G M xs vs → boolsOf xs = some bs → vs = bs.map V.bl
  | [], _, _, h, e => by cases e; exact h
  | .bl b :: xs, _, bs, h, e => by
    obtain ⟨v, r, rfl, h1, h2⟩ := h
    dsimp only [boolsOf] at e
    cases q : boolsOf xs with
    | none => rw [q] at e; cases e
    | some cs =>
      rw [q] at e
      cases e
      cases (show _ = _ from h1)
      rw [bools_ok h2 q]
      rfl
  | .non :: _, _, _, _, e => by cases e
  | .int _ :: _, _, _, _, e => by cases e
  | .str _ :: _, _, _, _, e => by cases e
  | .tup _ :: _, _, _, _, e => by cases e
  | .lst _ :: _, _, _, _, e => by cases e
  | .ref _ :: _, _, _, _, e => by cases e
  | .cls _ :: _, _, _, _, e => by cases e
  | .fn _ :: _, _, _, _, e => by cases e
theorem ints_ok {G : Gx} {M : Mp} : ∀ {xs : List D} {vs : List V} {ns : List Int}, RelDs G M xs vs → intsOf xs = some ns → vs = ns.map V.int
  | [], _, _, h, e => by cases e; exact h
  | .int b :: xs, _, bs, h, e => by
    obtain ⟨v, r, rfl, h1, h2⟩ := h
    dsimp only [intsOf] at e
    cases q : intsOf xs with
    | none => rw [q] at e; cases e
    | some cs =>
      rw [q] at e
      cases e
      cases (show _ = _ from h1)
      rw [ints_ok h2 q]
      rfl
  | .non :: _, _, _, _, e => by cases e
  | .bl _ :: _, _, _, _, e => by cases e
  | .str _ :: _, _, _, _, e => by cases e
  | .tup _ :: _, _, _, _, e => by cases e
  | .lst _ :: _, _, _, _, e => by cases e
  | .ref _ :: _, _, _, _, e => by cases e
  | .cls _ :: _, _, _, _, e => by cases e
  | .fn _ :: _, _, _, _, e => by cases e
theorem l1_all {G : Gx} : L1 G (rAll G.K) (fun t xs => if t then none else (boolsOf xs).map fun bs => .bl (bs.all id)) := by
  intro M S H t xs p vs z Q rh h1 h2 hz k
  cases t with
  | true => cases hz
  | false =>
    dsimp only at hz
    cases q : boolsOf xs with
    | none => rw [q] at hz; cases hz
    | some bs =>
      rw [q] at hz
      cases hz
      exact ⟨p, bs, rfl, by rw [← bools_ok h2 q]; exact h1, k M _ H Ext.refl rh rfl⟩
theorem l1_any {G : Gx} : L1 G (rAny G.K) (fun t xs => if t then none else (boolsOf xs).map fun bs => .bl (bs.any id)) := by
  intro M S H t xs p vs z Q rh h1 h2 hz k
  cases t with
  | true => cases hz
  | false =>
    dsimp only at hz
    cases q : boolsOf xs with
    | none => rw [q] at hz; cases hz
    | some bs =>
      rw [q] at hz
      cases hz
      exact ⟨p, bs, rfl, by rw [← bools_ok h2 q]; exact h1, k M _ H Ext.refl rh rfl⟩
theorem l1_sum {G : Gx} : L1 G (rSum G.K) (fun t xs => if t then none else (intsOf xs).map fun ns => .int ns.sum) := by
  intro M S H t xs p vs z Q rh h1 h2 hz k
  cases t with
  | true => cases hz
  | false =>
    dsimp only at hz
    cases q : intsOf xs with
    | none => rw [q] at hz; cases hz
    | some bs =>
      rw [q] at hz
      cases hz
      exact ⟨p, bs, rfl, by rw [← ints_ok h2 q]; exact h1, k M _ H Ext.refl rh rfl⟩
/-! ### sorted -/
/-- a machine's value is this one -/
def VD (G : Gx) (M : Mp) (u : Value) (d : D) : Prop := ∃ v, RelV v u ∧ RelD G M d v
theorem each_of {G : Gx} {M : Mp} : ∀ {ds : List D} {vs : List V} {us : List Value}, RelDs G M ds vs → Vals vs us → PySem.W.EachIs (VD G M) us ds
  | [], _, _, h, r => by
    cases (show _ = _ from h)
    cases r
    exact .nil
  | d :: ds, _, _, h, r => by
    obtain ⟨v, vs, rfl, h1, h2⟩ := h
    cases r with
    | cons r1 r2 => exact .cons ⟨v, r1, h1⟩ (each_of h2 r2)
theorem of_each {G : Gx} {M : Mp} : ∀ {ds : List D} {us : List Value}, PySem.W.EachIs (VD G M) us ds → ∃ vs, RelDs G M ds vs ∧ Vals vs us
  | _, _, .nil => ⟨[], rfl, .nil⟩
  | _, _, .cons ⟨v, r, h⟩ t => by
    obtain ⟨vs, h1, h2⟩ := of_each t
    exact ⟨v :: vs, RelDs.cons h h1, .cons r h2⟩
theorem each_imp {a b : Type} {R R' : a → b → Prop} : ∀ {us : List a} {ds : List b}, PySem.W.EachIs R us ds → (∀ u d, d ∈ ds → R u d → R' u d) → PySem.W.EachIs R' us ds
  | _, _, .nil, _ => .nil
  | _, _, .cons r t, k => .cons (k _ _ (List.mem_cons_self ..) r) (each_imp t fun u d hd => k u d (List.mem_cons_of_mem _ hd))
def rSortD (G : Gx) : List V → Hp → VK → Prop := fun xs H Q => ∃ (M : Mp) (S : Store) (p : Addr) (vs : List V) (ds : List D), xs = [.ref p] ∧ RelH G M S H ∧ SqL G.K H p vs ∧ RelDs G M ds vs ∧ sortOk ds = true ∧
  ∀ l ws, H l = none → RelDs G M (sortD ds) ws → Q (.ref l) (upd H l (.lst ws))
theorem sort_facts {ds : List D} (h : sortOk ds = true) : (∀ d ∈ ds, D.pl 64 d = true) ∧ PySem.W.AllAlike (ds.map D.P) ∧ PySem.W.Sortable (ds.map D.P) := by
  unfold sortOk at h
  simp only [Bool.and_eq_true, Bool.or_eq_true, List.all_eq_true] at h
  obtain ⟨⟨⟨h1, h2⟩, h3⟩, h4⟩ := h
  refine ⟨h1, ?_, ?_⟩
  · intro a ha b hb
    obtain ⟨x, hx, rfl⟩ := List.mem_map.mp ha
    obtain ⟨y, hy, rfl⟩ := List.mem_map.mp hb
    unfold aliker at h2
    simp only [List.all_eq_true] at h2
    exact h2 x hx y hy
  · rcases h4 with h4 | h4
    · refine .inl fun d hd => ?_
      obtain ⟨x, hx, rfl⟩ := List.mem_map.mp hd
      have q3 := h3 x hx
      have q4 := h4 x hx
      cases x with
      | tup ys =>
        cases ys with
        | nil => simp at q3
        | cons y ys => exact ⟨y.P, D.Ps ys, by simp [D.P, D.Ps]⟩
      | _ => simp at q4
    · refine .inr fun d hd => ?_
      obtain ⟨x, hx, rfl⟩ := List.mem_map.mp hd
      have q3 := h3 x hx
      have q4 := h4 x hx
      cases x <;> simp_all [D.P]
theorem cr_sortD (hu : X.A.units + 70 < cLine) : CallR X (.builtin "sorted") (rSortD (gx X)) := by
  intro pins s z H xs us Q I r h
  obtain ⟨M, S, p, vs, ds, rfl, rh, hp, rd, ok, k⟩ := h
  obtain ⟨u, rfl, ru⟩ := vals1 r
  cases ru
  obtain ⟨its, rv, pl, hz⟩ := I.list hp
  obtain ⟨f1, f2, f3⟩ := sort_facts ok
  have e := each_of rd rv
  have er : PySem.W.EachIs (fun v b => ∃ as, Reads s.heap v (D.P b) as) its ds := each_imp e fun u d hd ⟨v, r1, r2⟩ => Dp.reads I _ v u (RelD.dp rh (f1 d hd) r2) r1
  refine PySem.W.sorted_data (enc := D.P) (R := VD (gx X) M) pl.isList e er f2 f3 (by rw [rd.len]; exact hz) (fun b hb => ?_) fun out ho he => ?_
  · have := (P_lay (f1 b hb)).2
    omega
  · have he : PySem.W.EachIs (VD (gx X) M) out (sortD ds) := he
    obtain ⟨ws, h1, h2⟩ := of_each he
    obtain ⟨ep, he'⟩ := PyProof.Rows.sortedAll_at s.heap its out.toArray
    have hlen : ws.length ≤ sizeLine := by
      rw [h2.length, ho, rd.len]; exact hz
    exact ⟨.ref _, upd H (s.heap.objs.size + 1) (.lst ws), I.laid (t' := s.toks) (fun _ _ => PyProof.Rows.sortedAll_old) (Nat.le_succ _) ⟨hlen, out, ep, h2, he'⟩, rfl, k _ _ (I.hok.fresh (Nat.le_succ _)) h1⟩
theorem l1_sorted {G : Gx} : L1 G (rSortD G) (fun t xs => if !t && sortOk xs then some (.lst (sortD xs)) else none) := by
  intro M S H t xs p vs z Q rh h1 h2 hz k
  cases t with
  | true => cases hz
  | false =>
    dsimp only at hz
    split at hz
    · rename_i ok
      cases hz
      refine ⟨M, S, p, vs, xs, rfl, rh, h1, h2, by simpa using ok, fun l ws hl hw => ?_⟩
      obtain ⟨M', e1, e2, e3⟩ := Ext.lstNew rh hl hw
      exact k M' _ _ e1 e2 e3
    · cases hz
/-! ### subscripts -/
theorem place_eq (n : Nat) (i : Int) : place n i = ixN n i := rfl
theorem at_ok {G : Gx} {M : Mp} {xs : List D} {vs : List V} {i : Int} {d : D} (h : RelDs G M xs vs) (e : atD xs i = some d) : ∃ v, atI vs i = some v ∧ RelD G M d v := by
  unfold atD at e
  unfold atI
  rw [← h.len, ← place_eq]
  cases q : place xs.length i with
  | none => rw [q] at e; cases e
  | some j =>
    rw [q] at e
    exact h.get e
def rIxA (K : PySem.W.Frag) : R2 := fun x y H Q => rIxL K x y H Q ∨ rIxT K x y H Q
theorem ix_any : IxR X (rIxA X.K) := ix_list.or ix_tup
theorem se_ix (ha : SL X W a dl) (hb : SE X W b db) (hs : PlainIx b) : SE X W (.Subscript a b pos) (eIx dl db) := by
  refine (pe_ix ix_any ha hb hs).dimp ?_
  rintro s H Q ⟨M, r, S, en, rh, p⟩
  refine ⟨M, r, S, en, rh, (Post.bind (R := RSrc (gx X) s) p).imp fun v H1 h => ?_⟩
  obtain ⟨M1, c, S1, e1, rh1, rd1, p1⟩ := h
  refine ⟨M1, r, S1, en.mono e1, rh1, (Post.bind (R := RD (gx X)) p1).imp fun w H2 h => ?_⟩
  obtain ⟨M2, y, S2, e2, rh2, rd2, p2⟩ := h
  cases y with
  | int i =>
    cases (show _ = _ from rd2)
    dsimp only at p2
    cases q : c.get r S2 with
    | none => rw [q] at p2; exact p2.elim
    | some xs =>
      rw [q] at p2
      obtain ⟨p, vs, rfl, h1, h2⟩ := src_ok rh2 ((en.mono e1).mono e2) (rd1.mono e2) q
      cases q2 : atD xs i with
      | none =>
        have p2 : Post (gx X) (RD (gx X)) W M2 H2 s (Rs.ofO (atD xs i) S2) Q := p2
        rw [q2] at p2; exact p2.elim
      | some d =>
        have p2 : Post (gx X) (RD (gx X)) W M2 H2 s (Rs.ofO (atD xs i) S2) Q := p2
        rw [q2] at p2
        obtain ⟨v, h3, h4⟩ := at_ok h2 q2
        have fin := p2 M2 v H2 Ext.refl rh2 h4
        rcases sq_or h1 with h1 | h1
        · exact .inl ⟨p, vs, i, v, rfl, rfl, h1, h3, fin⟩
        · exact .inr ⟨p, vs, i, v, rfl, rfl, h1, h3, fin⟩
  | _ => exact p2.elim
/-- bounds of slices -/
theorem cutAt_eq (n d : Nat) (o : Option Int) : cutAt n d o = HT.sIx n d o := by
  cases o with
  | none => rfl
  | some i =>
    first
      | rfl
      | (unfold cutAt HT.sIx; dsimp only; split <;> omega)
theorem cutD_ok {G : Gx} {M : Mp} {xs : List D} {vs : List V} (h : RelDs G M xs vs) (lo hi : Option Int) : RelDs G M (cutD xs lo hi) (cutV vs lo hi) := by
  unfold cutD cutV
  rw [← h.len, cutAt_eq, cutAt_eq]
  exact (h.drop _).take _
end
end Dn

end
section
set_option Elab.async false
set_option linter.all false
set_option maxRecDepth 100000
set_option maxHeartbeats 4000000
/-! The rules: slices, in, built-ins of values, objects, calls, comprehensions. -/
namespace Dn
open PySem PySem.Spec PyProof.Rows L2
variable [Tb]
section
variable {X : Cx} {W : WX} {a b c e : Expr} {es : List Expr} {da db dc : DE} {ds : DA} {dl : DL} {pos : Pos}
/-! ### slices -/
def RO : Mp → Hp → Option Int → Option Int → Prop := fun _ _ b c => b = c
def tO (G : Gx) (W : WX) (d : DO) : TO := fun s H Q => ∃ M r S, EnvR G M H r s ∧ RelH G M S H ∧ Post G RO W M H s (d r S) Q
abbrev SO2 (X : Cx) (W : WX) (e : Option Expr) (d : DO) : Prop := PO X e (tO (gx X) W d)
theorem po_dimp {e : Option Expr} {t t' : TO} (h : PO X e t) (k : ∀ s H Q, t' s H Q → t s H Q) : PO X e t' := ⟨fun pins st s H Q I q => h.run pins st s H Q I (k s H Q q)⟩
theorem so_none : SO2 X W none oNone := by
  refine po_dimp po_none ?_
  rintro s H Q ⟨M, r, S, en, rh, p⟩
  exact p M _ H Ext.refl rh rfl
theorem so_some (h : SE X W a da) : SO2 X W (some a) (oSome da) := by
  refine po_dimp (po_some h) ?_
  rintro s H Q ⟨M, r, S, en, rh, p⟩
  refine ⟨M, r, S, en, rh, p.bind.imp fun v H1 h => ?_⟩
  obtain ⟨M1, x, S1, e1, rh1, rd1, p1⟩ := h
  cases x with
  | int i =>
    cases (show _ = _ from rd1)
    exact ⟨i, rfl, p1 M1 _ H1 Ext.refl rh1 rfl⟩
  | _ => exact p1.elim
def rSlQ (K : PySem.W.Frag) : V → Option Int → Option Int → Hp → VK → Prop := fun x lo hi H Q => rSlL K x lo hi H Q ∨ rSlA K x lo hi H Q
theorem sl_any : SlR X (rSlQ X.K) := sl_list.or sl_tupA
theorem se_slice {lo hi : Option Expr} {dlo dhi : DO} {p2 : Pos} (ha : SL X W a dl) (hl : SO2 X W lo dlo) (hh : SO2 X W hi dhi) : SE X W (.Subscript a (.Slice lo hi none p2) pos) (eSlice dl dlo dhi) := by
  refine (pe_slice sl_any ha hl hh).dimp ?_
  rintro s H Q ⟨M, r, S, en, rh, p⟩
  refine ⟨M, r, S, en, rh, (Post.bind (R := RSrc (gx X) s) p).imp fun v H1 h => ?_⟩
  obtain ⟨M1, c, S1, e1, rh1, rd1, p1⟩ := h
  refine ⟨M1, r, S1, en.mono e1, rh1, (Post.bind (R := RO) p1).imp fun l H2 h => ?_⟩
  obtain ⟨M2, l', S2, e2, rh2, rd2, p2⟩ := h
  obtain rfl : l' = l := rd2
  refine ⟨M2, r, S2, (en.mono e1).mono e2, rh2, (Post.bind (R := RO) p2).imp fun u H3 h => ?_⟩
  obtain ⟨M3, u', S3, e3, rh3, rd3, p3⟩ := h
  obtain rfl : u' = u := rd3
  have rd := (rd1.mono e2).mono e3
  have en3 := ((en.mono e1).mono e2).mono e3
  cases q : c.get r S3 with
  | none => rw [q] at p3; exact p3.elim
  | some xs =>
    rw [q] at p3
    obtain ⟨p, vs, rfl, h1, h2⟩ := src_ok rh3 en3 rd q
    cases ht : c.isT with
    | false =>
      rw [ht] at p3 h1
      have p3 : Post (gx X) (RD (gx X)) W M3 H3 s (.ok (.lst (cutD xs l' u')) S3) Q := p3
      refine .inl ⟨p, vs, rfl, h1, fun q hq => ?_⟩
      obtain ⟨M', x1, x2, x3⟩ := Ext.lstNew rh3 hq (cutD_ok h2 l' u')
      exact p3 M' _ _ x1 x2 x3
    | true =>
      rw [ht] at p3 h1
      have p3 : Post (gx X) (RD (gx X)) W M3 H3 s (.ok (.tup (cutD xs l' u')) S3) Q := p3
      refine .inr ⟨p, vs, rfl, h1, fun hw => ?_, fun _ q hq => ?_⟩
      · cases c with
        | cst t ys =>
          have e : ys = xs := Option.some.inj q
          subst e
          cases t with
          | true =>
            refine p3 M3 _ H3 Ext.refl rh3 ?_
            have ec : cutD ys l' u' = ys := by
              unfold cutD
              rw [cutAt_eq, cutAt_eq, h2.len, hw.1, hw.2]
              simp [← h2.len]
            rw [ec]
            exact rd
          | false => cases ht
        | own i => cases ht
        | loc l => cases ht
      · obtain ⟨M', x1, x2, x3⟩ := Ext.tupNew rh3 hq (cutD_ok h2 l' u')
        exact p3 M' _ _ x1 x2 x3
/-! ### in -/
def rInA (K : PySem.W.Frag) (neg : Bool) : R2 := fun x y H Q => ∃ d ds, Dp K H x d ∧ (Dp K H y (.list ds) ∨ Dp K H y (.tuple ds)) ∧ SeqAt.shaped d = true ∧ SeqAt.shaped (.list ds) = true ∧ Q (.bl (if neg then !ds.any (fun z => PyData.eqv z d) else ds.any fun z => PyData.eqv z d)) H
theorem shaped_lt {ds : List PyData} (h : SeqAt.shaped (.list ds) = true) : SeqAt.shaped (.tuple ds) = true := by
  unfold SeqAt.shaped at h ⊢
  simpa [PyData.canLay0, PyData.depth] using h
theorem op_inA (hu : X.A.units + 65 < cLine) : OpR X (compareOp .In) (rInA X.K false) := by
  intro pins s z H x y v u Q I rx ry h
  obtain ⟨d, ds, hd, he, sd, se, q⟩ := h
  obtain ⟨as, r1⟩ := Dp.reads I d x v hd rx
  rcases he with he | he
  · obtain ⟨bs, r2⟩ := Dp.reads I (.list ds) y u he ry
    exact SeqAt.in_list_reads r2 r1 (SeqAt.canLay_of_shaped se) (SeqAt.canLay_of_shaped sd) (room_in_shaped sd hu) ⟨.bl _, H, I, rfl, q⟩
  · obtain ⟨bs, r2⟩ := Dp.reads I (.tuple ds) y u he ry
    exact SeqAt.in_tuple_reads r2 r1 (SeqAt.canLay_of_shaped (shaped_lt se)) (SeqAt.canLay_of_shaped sd) (room_in_shaped sd hu) ⟨.bl _, H, I, rfl, q⟩
theorem op_notInA (hu : X.A.units + 65 < cLine) : OpR X (compareOp .NotIn) (rInA X.K true) := by
  intro pins s z H x y v u Q I rx ry h
  obtain ⟨d, ds, hd, he, sd, se, q⟩ := h
  obtain ⟨as, r1⟩ := Dp.reads I d x v hd rx
  rcases he with he | he
  · obtain ⟨bs, r2⟩ := Dp.reads I (.list ds) y u he ry
    exact SeqAt.notIn_list_reads r2 r1 (SeqAt.canLay_of_shaped se) (SeqAt.canLay_of_shaped sd) (room_in_shaped sd hu) ⟨.bl _, H, I, rfl, q⟩
  · obtain ⟨bs, r2⟩ := Dp.reads I (.tuple ds) y u he ry
    exact SeqAt.notIn_tuple_reads r2 r1 (SeqAt.canLay_of_shaped (shaped_lt se)) (SeqAt.canLay_of_shaped sd) (room_in_shaped sd hu) ⟨.bl _, H, I, rfl, q⟩
theorem any_eqv {k m : Nat} {x : D} (hx : D.pl k x = true) : ∀ {xs : List D}, D.pls m xs = true → ((D.Ps xs).any fun z => PyData.eqv z x.P) = xs.any fun z => eqD z x
  | [], _ => rfl
  | y :: xs, h => by
    have h' : D.pl m y = true ∧ D.pls m xs = true := by simpa [D.pls] using h
    simp only [D.Ps, List.any_cons]
    rw [eqv_of y x h'.1 hx, any_eqv hx h'.2]
theorem in_t {G : Gx} {neg : Bool} {W : WX} {da : DE} {dl : DL} {s : L2.St} {H : Hp} {Q : VK} (h : tE G W (eIn neg da dl) s H Q) : tOp (rInA G.K neg) (tE G W da) (tL G W dl) s H Q := by
  obtain ⟨M, r, S, en, rh, p⟩ := h
  refine ⟨M, r, S, en, rh, (Post.bind (R := RD G) p).imp fun v H1 h => ?_⟩
  obtain ⟨M1, x, S1, e1, rh1, rd1, p1⟩ := h
  refine ⟨M1, r, S1, en.mono e1, rh1, (Post.bind (R := RSrc G s) p1).imp fun w H2 h => ?_⟩
  obtain ⟨M2, c, S2, e2, rh2, rd2, p2⟩ := h
  cases q : c.get r S2 with
  | none => rw [q] at p2; exact p2.elim
  | some xs =>
    rw [q] at p2
    obtain ⟨p, vs, rfl, h1, h2⟩ := src_ok rh2 ((en.mono e1).mono e2) rd2 q
    have p2 : Post G (RD G) W M2 H2 s (if D.pl 63 x && D.pls 63 xs then .ok (.bl (if neg then !xs.any (fun z => eqD z x) else xs.any (fun z => eqD z x))) S2 else .bad) Q := p2
    split at p2
    · rename_i hc
      simp only [Bool.and_eq_true] at hc
      have dpx := RelD.dp rh2 hc.1 (rd1.mono e2)
      have dps := RelDs.dps rh2 hc.2 h2
      have sx := P_lay hc.1
      have sxs := Ps_lay hc.2
      refine ⟨x.P, D.Ps xs, dpx, ?_, ?_, ?_, ?_⟩
      · cases ht : c.isT with
        | true => rw [ht] at h1; exact .inr (.tup h1 dps)
        | false => rw [ht] at h1; exact .inl (.lst h1 dps)
      · unfold SeqAt.shaped
        simp only [sx.1, Bool.true_and, decide_eq_true_eq]
        omega
      · unfold SeqAt.shaped
        have q1 : (PyData.list (D.Ps xs)).canLay0 = true := by simp only [PyData.canLay0]; exact sxs.1
        have q2 : (PyData.list (D.Ps xs)).depth ≤ 64 := by simp only [PyData.depth]; omega
        rw [q1, decide_eq_true q2]
        rfl
      · rw [any_eqv hc.1 hc.2]
        exact p2 M2 _ H2 Ext.refl rh2 rfl
    · exact p2.elim
theorem se_in {op : CmpOp} {neg : Bool} (ho : OpR X (compareOp op) (rInA X.K neg)) (ha : SE X W a da) (hb : SL X W b dl) (hm : behindInMarks op b = false) : SE X W (.Compare a [op] [b] pos) (eIn neg da dl) := (pe_cmpR ho ha hb hm).dimp fun _ _ _ => in_t
/-! ### built-ins of values -/
theorem se_len_str (hc : PE X e (tCB (fun xs H Q => ∃ z, xs = [.str z] ∧ z.length ≤ sizeLine ∧ Q (.int z.length) H) (tCons (tE (gx X) W da) tNil))) : SE X W e (eLenS da) := by
  refine hc.dimp ?_
  rintro s H Q ⟨M, r, S, en, rh, p⟩
  refine ⟨M, r, S, en, rh, p.bind.imp fun v H1 h => ?_⟩
  obtain ⟨M1, x, S1, e1, rh1, rd1, p1⟩ := h
  cases x with
  | str z =>
    cases (show _ = _ from rd1)
    dsimp only at p1
    split at p1
    · rename_i hz
      exact ⟨z, rfl, hz, p1 M1 _ H1 Ext.refl rh1 rfl⟩
    · exact p1.elim
  | _ => exact p1.elim
theorem se_abs (hc : PE X e (tCB (fun xs H Q => ∃ i, xs = [.int i] ∧ Q (.int (if i < 0 then -i else i)) H) (tCons (tE (gx X) W da) tNil))) : SE X W e (eAbs da) := by
  refine hc.dimp ?_
  rintro s H Q ⟨M, r, S, en, rh, p⟩
  refine ⟨M, r, S, en, rh, p.bind.imp fun v H1 h => ?_⟩
  obtain ⟨M1, x, S1, e1, rh1, rd1, p1⟩ := h
  cases x with
  | int z =>
    cases (show _ = _ from rd1)
    exact ⟨z, rfl, p1 M1 _ H1 Ext.refl rh1 rfl⟩
  | _ => exact p1.elim
theorem se_intOf (hc : PE X e (tCB (fun xs H Q => (∃ i, xs = [.int i] ∧ Q (.int i) H) ∨ ∃ k, xs = [.bl k] ∧ Q (.int (if k then 1 else 0)) H) (tCons (tE (gx X) W da) tNil))) : SE X W e (eInt da) := by
  refine hc.dimp ?_
  rintro s H Q ⟨M, r, S, en, rh, p⟩
  refine ⟨M, r, S, en, rh, p.bind.imp fun v H1 h => ?_⟩
  obtain ⟨M1, x, S1, e1, rh1, rd1, p1⟩ := h
  cases x with
  | int z =>
    cases (show _ = _ from rd1)
    exact .inl ⟨z, rfl, p1 M1 _ H1 Ext.refl rh1 rfl⟩
  | bl z =>
    cases (show _ = _ from rd1)
    exact .inr ⟨z, rfl, p1 M1 _ H1 Ext.refl rh1 rfl⟩
  | _ => exact p1.elim
theorem se_min2 (hc : PE X e (tCB (fun xs H Q => ∃ i j, xs = [.int i, .int j] ∧ Q (.int (if j < i then j else i)) H) (tCons (tE (gx X) W da) (tCons (tE (gx X) W db) tNil)))) : SE X W e (eMin2 da db) := by
  refine hc.dimp ?_
  rintro s H Q ⟨M, r, S, en, rh, p⟩
  refine ⟨M, r, S, en, rh, (bind2 en p).imp fun v H1 h => ?_⟩
  obtain ⟨M1, S1, e1, rh1, en1, p1⟩ := h
  refine ⟨M1, r, S1, en1, rh1, p1.imp fun u H2 h => ?_⟩
  obtain ⟨M2, x, y, S2, e2, rh2, en2, rd1, rd2, p2⟩ := h
  split at p2
  · rename_i i j
    cases (show _ = _ from rd1)
    cases (show _ = _ from rd2)
    exact ⟨_, _, rfl, p2 M2 _ H2 Ext.refl rh2 rfl⟩
  · exact p2.elim
theorem se_max2 (hc : PE X e (tCB (fun xs H Q => ∃ i j, xs = [.int i, .int j] ∧ Q (.int (if j > i then j else i)) H) (tCons (tE (gx X) W da) (tCons (tE (gx X) W db) tNil)))) : SE X W e (eMax2 da db) := by
  refine hc.dimp ?_
  rintro s H Q ⟨M, r, S, en, rh, p⟩
  refine ⟨M, r, S, en, rh, (bind2 en p).imp fun v H1 h => ?_⟩
  obtain ⟨M1, S1, e1, rh1, en1, p1⟩ := h
  refine ⟨M1, r, S1, en1, rh1, p1.imp fun u H2 h => ?_⟩
  obtain ⟨M2, x, y, S2, e2, rh2, en2, rd1, rd2, p2⟩ := h
  split at p2
  · rename_i i j
    cases (show _ = _ from rd1)
    cases (show _ = _ from rd2)
    exact ⟨_, _, rfl, p2 M2 _ H2 Ext.refl rh2 rfl⟩
  · exact p2.elim
/-- isinstance(x, a built-in class) -/
theorem ty_ok {G : Gx} {M : Mp} {S : Store} {H : Hp} {x : D} {v : V} {t : String} (rh : RelH G M S H) (rd : RelD G M x v) (h : tyName S x = some t) : TyX G.K H v (.type t) := by
  cases x with
  | non => cases h; cases (show _ = _ from rd); exact .base .non
  | bl b => cases h; cases (show _ = _ from rd); exact .base (.bl b)
  | int b => cases h; cases (show _ = _ from rd); exact .base (.int b)
  | str b => cases h; cases (show _ = _ from rd); exact .base (.str b)
  | tup xs =>
    cases h
    obtain ⟨p, vs, rfl, h1, h2⟩ := rd
    rcases h1 with h1 | h1
    · exact .base (.tup (rh.tup p vs h1))
    · rcases h1 with z | ⟨o, its, n, z1, z2, z3, _⟩
      · rcases z with z | ⟨_, z⟩ <;> cases z
      · exact .kTuple z1 z2
  | lst xs =>
    cases h
    obtain ⟨p, vs, rfl, h1, h2⟩ := rd
    rcases rh.sq h1 with (z | ⟨o, z⟩) | ⟨o, its, n, z1, z2, _⟩
    · exact .base (.lst z)
    · exact .base (.frz z)
    · exact .kList z1 z2
  | ref l =>
    obtain ⟨p, rfl, h1⟩ := rd
    dsimp only [tyName] at h
    cases q : S[l]? with
    | none => rw [q] at h; cases h
    | some o =>
      rw [q] at h
      cases o with
      | lst ds =>
        cases h
        obtain ⟨a, e1, vs, e2, e3⟩ := rh.obj l _ q
        rw [h1] at e1; cases e1
        exact .base (.lst e2)
      | dct b kvs =>
        cases h
        obtain ⟨a, e1, e2⟩ := rh.obj l _ q
        rw [h1] at e1; cases e1
        rcases e2 with ⟨_, vs, e3, _⟩ | ⟨_, vs, e3, _⟩
        · exact .base (.dK e3)
        · exact .base (.dT e3)
      | ins _ _ => cases h
  | cls _ => cases h
  | fn _ => cases h
def kitOk (n : String) : Bool := ["NoneType", "bool", "int", "str", "tuple", "list", "dict"].all fun t => decide (kitB t n = some (isTy t n))
theorem se_isTy {n : String} (hn : kitOk n = true) (hc : PE X e (tCB (rIsi X.K) (tCons (tE (gx X) W da) (tCons (tC (.ty n)) tNil)))) : SE X W e (eIsTy n da) := by
  refine hc.dimp ?_
  rintro s H Q ⟨M, r, S, en, rh, p⟩
  refine ⟨M, r, S, en, rh, p.bind.imp fun v H1 h => ?_⟩
  obtain ⟨M1, x, S1, e1, rh1, rd1, p1⟩ := h
  cases q : tyName S1 x with
  | none => rw [q] at p1; exact p1.elim
  | some t =>
    rw [q] at p1
    have hk : kitB t n = some (isTy t n) := by
      unfold kitOk at hn
      rw [List.all_eq_true] at hn
      refine of_decide_eq_true (hn t ?_)
      cases x with
      | non => cases q; simp
      | bl _ => cases q; simp
      | int _ => cases q; simp
      | str _ => cases q; simp
      | tup _ => cases q; simp
      | lst _ => cases q; simp
      | ref l =>
        dsimp only [tyName] at q
        split at q
        · cases q; simp
        · cases q; simp
        · cases q
      | cls _ => cases q
      | fn _ => cases q
    exact ⟨v, .ty n, .type t, .type n, isTy t n, rfl, .ty n, ty_ok rh1 rd1 q, kit_ty hk, p1 M1 _ H1 Ext.refl rh1 rfl⟩
/-! ### objects -/
/-- what the text's class must have -/
def FldOk (G : Gx) (c f : Str) : Prop := ∀ C, G.mg c = some (.ref C) → Cls G.K C ∧ NoAttr G.K C f
theorem se_fld {f : Str} {cs : List Str} (hf : ∀ c ∈ cs, FldOk (gx X) c f) (ha : SE X W a da) (hb : attributeBase a f X.env (eval a X.env) = eval a X.env) : SE X W (.Attribute a f pos) (eFld cs f da) := by
  refine (pe_fld ha hb).dimp ?_
  rintro s H Q ⟨M, r, S, en, rh, p⟩
  refine ⟨M, r, S, en, rh, p.bind.imp fun v H1 h => ?_⟩
  obtain ⟨M1, x, S1, e1, rh1, rd1, p1⟩ := h
  cases x with
  | ref l =>
    obtain ⟨p, rfl, h1⟩ := rd1
    dsimp only at p1
    cases q : S1[l]? with
    | none => rw [q] at p1; exact p1.elim
    | some o =>
      rw [q] at p1
      cases o with
      | ins c fs =>
        dsimp only at p1
        obtain ⟨a2, x1, C, dx, vfs, x2, x3, x4⟩ := rh1.obj l _ q
        rw [h1] at x1; cases x1
        split at p1
        · rename_i hc
          obtain ⟨k1, k2⟩ := hf c hc C x3
          cases q2 : fs.lookup f with
          | none => rw [q2] at p1; exact p1.elim
          | some d =>
            rw [q2] at p1
            obtain ⟨v, y1, y2⟩ := x4.lookup q2
            exact ⟨p, C, dx, vfs, v, rfl, x2, k1, k2, y1, p1 M1 v H1 Ext.refl rh1 y2⟩
        · exact p1.elim
      | lst _ => exact p1.elim
      | dct _ _ => exact p1.elim
  | _ => exact p1.elim
/-- what a def is worth, as a promise -/
def spD (G : Gx) (m : Fn) : Sp := fun vs H Q E => ∃ M ds S, RelDs G M ds vs ∧ RelH G M S H ∧ Post G (RD G) (fun cls dx _ H => E cls dx H) M H [] (m ds S) Q
theorem spD_of {G : Gx} {m : Fn} {M : Mp} {ds : List D} {S : Store} {vs : List V} {H : Hp} {s : L2.St} {Q : VK} {E : XK} (h1 : RelDs G M ds vs) (h2 : RelH G M S H) (hE : ∀ cls dx H', W cls dx s H' → E cls dx H') (p : Post G (RD G) W M H s (m ds S) Q) : spD G m vs H Q E := by
  refine ⟨M, ds, S, h1, h2, ?_⟩
  cases q : m ds S with
  | ok x S1 => rw [q] at p; exact p
  | exc c fs S1 =>
    rw [q] at p
    exact fun M' H' C dx e rh g x => hE _ _ _ (p M' H' C dx e rh g x)
  | bad => rw [q] at p; exact p
/-- a def of the text, called: no exception leaves here -/
abbrev WN : WX := fun _ _ _ _ => False
abbrev EN : XK := fun _ _ _ => False
def spN (G : Gx) (m : Fn) : Sp := fun vs H Q _ => spD G m vs H Q EN
theorem se_call {m : Fn} (hc : PE X e (tCall (spN (gx X) m) [] EN (tA (gx X) WN ds))) : SE X WN e (eCall m ds) := by
  refine hc.dimp ?_
  rintro s H Q ⟨M, r, S, en, rh, p⟩
  refine ⟨M, r, S, en, rh, (Post.bind (R := RA (gx X)) p).imp fun vs H1 h => ?_⟩
  obtain ⟨M1, xs, S1, e1, rh1, rd1, p1⟩ := h
  rw [List.append_nil]
  exact spD_of rd1 rh1 (fun _ _ _ z => z) p1
theorem se_call0 {m : Fn} (hc : PE X e (tCall (spN (gx X) m) [] EN tNil)) : SE X WN e (eCall m aNil) := by
  refine hc.dimp ?_
  rintro s H Q ⟨M, r, S, en, rh, p⟩
  have p : Post (gx X) (RD (gx X)) WN M H s (m [] S) Q := p
  exact spD_of (vs := [] ++ []) (ds := []) rfl rh (fun _ _ _ z => z) p
/-- a method -/
theorem se_meth {c mn : Str} {C : Addr} {g : Fn} (hC : X.mg c = some (.ref C)) (hc : PE X e (tMeth C mn (spN (gx X) g) [] EN (tE (gx X) WN da) (tA (gx X) WN ds))) : SE X WN e (eMeth c mn g da ds) := by
  refine hc.dimp ?_
  rintro s H Q ⟨M, r, S, en, rh, p⟩
  refine ⟨M, r, S, en, rh, (Post.bind (R := RD (gx X)) p).imp fun v H1 h => ?_⟩
  obtain ⟨M1, x, S1, e1, rh1, rd1, p1⟩ := h
  cases x with
  | ref l =>
    have rd1' := rd1
    obtain ⟨pa, rfl, h1⟩ := rd1
    dsimp only at p1
    cases q : S1[l]? with
    | none => rw [q] at p1; exact p1.elim
    | some o =>
      rw [q] at p1
      cases o with
      | ins k fs =>
        dsimp only at p1
        obtain ⟨a2, x1, C2, dx, vfs, x2, x3, x4⟩ := rh1.obj l _ q
        rw [h1] at x1; cases x1
        split at p1
        · rename_i hk
          obtain ⟨rfl, hn⟩ := hk
          have x3 : X.mg k = some (.ref C2) := x3
          rw [hC] at x3
          cases x3
          refine ⟨pa, dx, vfs, rfl, x2, x4.lookupN hn, M1, r, S1, en.mono e1, rh1, (Post.bind (R := RA (gx X)) p1).imp fun vs H2 h => ?_⟩
          obtain ⟨M2, xs, S2, e2, rh2, rd2, p2⟩ := h
          rw [List.append_nil]
          exact spD_of (ds := .ref l :: xs) (RelDs.cons (RelD.mono (G := gx X) (d := .ref l) e2 rd1') rd2) rh2 (fun _ _ _ z => z) p2
        · exact p1.elim
      | lst _ => exact p1.elim
      | dct _ _ => exact p1.elim
  | _ => exact p1.elim
theorem se_meth0 {c mn : Str} {C : Addr} {g : Fn} (hC : X.mg c = some (.ref C)) (hc : PE X e (tMeth C mn (spN (gx X) g) [] EN (tE (gx X) WN da) tNil)) : SE X WN e (eMeth c mn g da aNil) := by
  refine hc.dimp ?_
  rintro s H Q ⟨M, r, S, en, rh, p⟩
  refine ⟨M, r, S, en, rh, (Post.bind (R := RD (gx X)) p).imp fun v H1 h => ?_⟩
  obtain ⟨M1, x, S1, e1, rh1, rd1, p1⟩ := h
  cases x with
  | ref l =>
    have rd1' := rd1
    obtain ⟨pa, rfl, h1⟩ := rd1
    dsimp only at p1
    cases q : S1[l]? with
    | none => rw [q] at p1; exact p1.elim
    | some o =>
      rw [q] at p1
      cases o with
      | ins k fs =>
        dsimp only at p1
        obtain ⟨a2, x1, C2, dx, vfs, x2, x3, x4⟩ := rh1.obj l _ q
        rw [h1] at x1; cases x1
        split at p1
        · rename_i hk
          obtain ⟨rfl, hn⟩ := hk
          have x3 : X.mg k = some (.ref C2) := x3
          rw [hC] at x3
          cases x3
          refine ⟨pa, dx, vfs, rfl, x2, x4.lookupN hn, ?_⟩
          have p1 : Post (gx X) (RD (gx X)) WN M1 H1 s (g [.ref l] S1) Q := p1
          exact spD_of (ds := [.ref l]) (vs := [.ref pa]) (RelDs.cons rd1' rfl) rh1 (fun _ _ _ z => z) p1
        · exact p1.elim
      | lst _ => exact p1.elim
      | dct _ _ => exact p1.elim
  | _ => exact p1.elim
end
end Dn

end
section
set_option Elab.async false
set_option linter.all false
set_option maxRecDepth 100000
set_option maxHeartbeats 4000000
/-! The rules: new lists, what is walked, comprehensions, statements, defs. -/
namespace Dn
open PySem PySem.Spec PyProof.Rows L2
variable [Tb]
/-! ### new lists -/
/-- a new list of these: no one's yet -/
def RN (G : Gx) (H0 : Hp) : Mp → Hp → List D → V → Prop := fun M H ds v => ∃ p vs, v = .ref p ∧ H p = some (.lst vs) ∧ RelDs G M ds vs ∧ (∀ l, M.loc l ≠ some p) ∧ M.lst p = none ∧ H0 p = none
def tN (G : Gx) (W : WX) (d : DA) : TE := fun s H Q => ∃ M r S, EnvR G M H r s ∧ RelH G M S H ∧ Post G (RN G H) W M H s (d r S) Q
abbrev SN (X : Cx) (W : WX) (e : Expr) (d : DA) : Prop := PE X e (tN (gx X) W d)
theorem RelH.nolst {G : Gx} {M : Mp} {S : Store} {H : Hp} {p : Addr} (rh : RelH G M S H) (hp : H p = none) : M.lst p = none := by
  cases q : M.lst p with
  | none => rfl
  | some x => rcases rh.lst p x q with z | ⟨o, z⟩ <;> (rw [hp] at z; cases z)
theorem RelH.noloc {G : Gx} {M : Mp} {S : Store} {H : Hp} {p : Addr} (rh : RelH G M S H) (hp : H p = none) : ∀ l, M.loc l ≠ some p := fun l q => by
  have hl := rh.dom l p q
  obtain ⟨a, e1, e2⟩ := rh.obj l S[l] (by simp [hl])
  rw [q] at e1; cases e1
  rw [hp] at e2
  cases hS : S[l] with
  | lst ds => rw [hS] at e2; obtain ⟨_, z, _⟩ := e2; cases z
  | ins c fs => rw [hS] at e2; obtain ⟨_, _, _, z, _⟩ := e2; cases z
  | dct _ _ => rw [hS] at e2; exact DctR.not e2
theorem RelH.notup {G : Gx} {M : Mp} {S : Store} {H : Hp} {p : Addr} (rh : RelH G M S H) (hp : ∀ vs, H p ≠ some (.tup vs)) : M.tup p = none := by
  cases q : M.tup p with
  | none => rfl
  | some x => exact absurd (rh.tup p x q) (hp x)
/-- an object that no one knows -/
theorem RelH.other {G : Gx} {M : Mp} {S : Store} {H : Hp} {p : Addr} {o : HO} (rh : RelH G M S H) (hp : H p = none) : RelH G M S (upd H p o) := by
  have ne : ∀ b o, H b = some o → b ≠ p := fun b o h q => by rw [q, hp] at h; cases h
  refine ⟨fun l x q => ?_, rh.dom, rh.inj, fun a x h => ?_, fun a x h => ?_, rh.apt, tabs_fresh rh.tabs hp⟩
  · obtain ⟨a, e1, e2⟩ := rh.obj l x q
    refine ⟨a, e1, ?_⟩
    rw [upd_ne (fun z => rh.noloc hp l (by rw [← z]; exact e1))]
    exact e2
  · have := rh.tup a x h
    rw [upd_ne (ne a _ this)]; exact this
  · have q : a ≠ p := fun q => by rw [q, rh.nolst hp] at h; cases h
    rcases rh.lst a x h with z | ⟨o, z⟩
    · exact .inl (by rw [upd_ne q]; exact z)
    · exact .inr ⟨o, by rw [upd_ne q]; exact z⟩
theorem Ext.other {M : Mp} {H : Hp} {p : Addr} {o : HO} (hp : H p = none) : Ext M H M (upd H p o) := by
  have ne : ∀ b o, H b = some o → b ≠ p := fun b o h q => by rw [q, hp] at h; cases h
  exact ⟨fun _ _ h => h, fun _ _ h => h, fun _ _ h => h, fun _ _ h => .inl h, fun _ _ h => .inl h, fun a o h _ _ => by rw [upd_ne (ne a o h)]; exact h, fun a o h => ⟨o, by rw [upd_ne (ne a o h)]; exact h⟩⟩
/-- from no one's to one that stays -/
theorem frz_new {G : Gx} {M M' : Mp} {S : Store} {H H' : Hp} {p : Addr} {ds : List D} {vs : List V} (e : Ext M H M' H') (rh : RelH G M' S H') (hp : H' p = some (.lst vs)) (rd : RelDs G M' ds vs) (h1 : ∀ l, M'.loc l ≠ some p) (h2 : M'.lst p = none) (h0 : H p = none) :
    ∃ M2, Ext M H M2 H' ∧ RelH G M2 S H' ∧ RelD G M2 (.lst ds) (.ref p) ∧ Le M' M2 ∧ M2.loc = M'.loc ∧ ∀ a, a ≠ p → M2.lst a = M'.lst a := by
  have le : Le M' ⟨M'.loc, M'.tup, fun a => if a = p then some vs else M'.lst a⟩ := ⟨fun _ _ h => h, fun _ _ h => h, fun a x h => by
    have : a ≠ p := fun q => by rw [q, h2] at h; cases h
    show (if a = p then some vs else M'.lst a) = some x
    rw [if_neg this]; exact h⟩
  refine ⟨_, ⟨fun l a h => le.loc l a (e.loc l a h), fun l a h => le.tup l a (e.tup l a h), fun l a h => le.lst l a (e.lst l a h), e.new, fun a x h => ?_, e.keep, e.there⟩, ⟨fun l o q => ?_, rh.dom, rh.inj, rh.tup, fun a x h => ?_, fun a x l h => ?_, rh.tabs⟩, ⟨p, vs, rfl, .inl (by show (if p = p then some vs else M'.lst p) = some vs; rw [if_pos rfl]), RelDs.le le rd⟩, le, rfl, fun a ha => by show (if a = p then some vs else M'.lst a) = M'.lst a; rw [if_neg ha]⟩
  · by_cases q : a = p
    · exact .inr (by rw [q]; exact h0)
    · have h' : (if a = p then some vs else M'.lst a) = some x := h
      rw [if_neg q] at h'
      exact e.newl a x h'
  · obtain ⟨a, e1, e2⟩ := rh.obj l o q
    refine ⟨a, e1, ?_⟩
    cases o with
    | lst xs => obtain ⟨ws, q1, q2⟩ := e2; exact ⟨ws, q1, RelDs.le le q2⟩
    | ins c fs =>
      obtain ⟨C, dx, vfs, q1, q2, q3⟩ := e2
      refine ⟨C, dx, vfs, q1, q2, ?_⟩
      have all : ∀ {fs : List (Str × D)} {vfs : List (Str × V)}, RelFs G M' fs vfs → RelFs G ⟨M'.loc, M'.tup, fun a => if a = p then some vs else M'.lst a⟩ fs vfs := by
        intro fs
        induction fs with
        | nil => exact fun h => h
        | cons x fs ih =>
          obtain ⟨f, d⟩ := x
          rintro _ ⟨v, r, rfl, k1, k2⟩
          exact ⟨v, r, rfl, RelD.le le k1, ih k2⟩
      exact all q3
    | dct _ _ => exact DctR.map (fun _ _ q => RelD.le le q) e2
  · by_cases q : a = p
    · have h' : (if a = p then some vs else M'.lst a) = some x := h
      rw [if_pos q] at h'
      cases h'
      rw [q]
      exact .inl hp
    · have h' : (if a = p then some vs else M'.lst a) = some x := h
      rw [if_neg q] at h'
      exact rh.lst a x h'
  · by_cases q : a = p
    · rw [q]; exact h1 l
    · have h' : (if a = p then some vs else M'.lst a) = some x := h
      rw [if_neg q] at h'
      exact rh.apt a x l h'
/-- .. to a numbered one -/
theorem loc_new {G : Gx} {M M' : Mp} {S : Store} {H H' : Hp} {p : Addr} {ds : List D} {vs : List V} (e : Ext M H M' H') (rh : RelH G M' S H') (hp : H' p = some (.lst vs)) (rd : RelDs G M' ds vs) (h1 : ∀ l, M'.loc l ≠ some p) (h2 : M'.lst p = none) (h0 : H p = none) :
    ∃ M2, Ext M H M2 H' ∧ RelH G M2 (S ++ [.lst ds]) H' ∧ RelD G M2 (.ref S.length) (.ref p) := by
  have nS : ∀ l x, M'.loc l = some x → l ≠ S.length := fun l x h q => by have := rh.dom l x h; omega
  have le : Le M' ⟨fun l => if l = S.length then some p else M'.loc l, M'.tup, M'.lst⟩ := ⟨fun l x h => by
    show (if l = S.length then some p else M'.loc l) = some x
    rw [if_neg (nS l x h)]; exact h, fun _ _ h => h, fun _ _ h => h⟩
  have all : ∀ {fs : List (Str × D)} {vfs : List (Str × V)}, RelFs G M' fs vfs → RelFs G ⟨fun l => if l = S.length then some p else M'.loc l, M'.tup, M'.lst⟩ fs vfs := by
    intro fs
    induction fs with
    | nil => exact fun h => h
    | cons x fs ih =>
      obtain ⟨f, d⟩ := x
      rintro _ ⟨v, r, rfl, k1, k2⟩
      exact ⟨v, r, rfl, RelD.le le k1, ih k2⟩
  refine ⟨_, ⟨fun l a h => le.loc l a (e.loc l a h), fun l a h => le.tup l a (e.tup l a h), fun l a h => le.lst l a (e.lst l a h), fun l x h => ?_, e.newl, e.keep, e.there⟩, ⟨fun l o q => ?_, fun l x h => ?_, fun l k x k1 k2 => ?_, rh.tup, rh.lst, fun a x l h q => ?_, rh.tabs⟩, p, rfl, by show (if S.length = S.length then some p else M'.loc S.length) = some p; rw [if_pos rfl]⟩
  · have h' : (if l = S.length then some p else M'.loc l) = some x := h
    by_cases q : l = S.length
    · rw [if_pos q] at h'; cases h'
      exact .inr h0
    · rw [if_neg q] at h'; exact e.new l x h'
  · by_cases hl : l = S.length
    · subst hl
      rw [List.getElem?_append_right (Nat.le_refl _)] at q
      simp at q
      subst q
      exact ⟨p, by show (if S.length = S.length then some p else M'.loc S.length) = some p; rw [if_pos rfl], vs, hp, RelDs.le le rd⟩
    · have hlt : l < S.length := by
        have := (List.getElem?_eq_some_iff.mp q).1
        simp at this; omega
      rw [List.getElem?_append_left hlt] at q
      obtain ⟨a, e1, e2⟩ := rh.obj l o q
      refine ⟨a, by show (if l = S.length then some p else M'.loc l) = some a; rw [if_neg hl]; exact e1, ?_⟩
      cases o with
      | lst xs => obtain ⟨ws, q1, q2⟩ := e2; exact ⟨ws, q1, RelDs.le le q2⟩
      | ins c fs => obtain ⟨C, dx, vfs, q1, q2, q3⟩ := e2; exact ⟨C, dx, vfs, q1, q2, all q3⟩
      | dct _ _ => exact DctR.map (fun _ _ q => RelD.le le q) e2
  · have h' : (if l = S.length then some p else M'.loc l) = some x := h
    by_cases q : l = S.length
    · rw [q]; simp
    · rw [if_neg q] at h'
      have := rh.dom l x h'
      simp; omega
  · have h1' : (if l = S.length then some p else M'.loc l) = some x := k1
    have h2' : (if k = S.length then some p else M'.loc k) = some x := k2
    by_cases q1 : l = S.length <;> by_cases q2 : k = S.length
    · rw [q1, q2]
    · rw [if_pos q1] at h1'; rw [if_neg q2] at h2'; cases h1'; exact absurd h2' (h1 k)
    · rw [if_neg q1] at h1'; rw [if_pos q2] at h2'; cases h2'; exact absurd h1' (h1 l)
    · rw [if_neg q1] at h1'; rw [if_neg q2] at h2'; exact rh.inj l k x h1' h2'
  · have h' : (if l = S.length then some p else M'.loc l) = some a := q
    by_cases z : l = S.length
    · rw [if_pos z] at h'; cases h'
      rw [h2] at h; cases h
    · rw [if_neg z] at h'
      exact rh.apt a x l h h'
section
variable {X : Cx} {W : WX} {a b c e : Expr} {es : List Expr} {da db dc : DE} {ds : DA} {dl : DL} {pos : Pos}
/-- a list that stays -/
theorem frz_t {G : Gx} {s : L2.St} {H : Hp} {Q : VK} (h : tE G W (eFrz ds) s H Q) : tN G W ds s H Q := by
  obtain ⟨M, r, S, en, rh, p⟩ := h
  refine ⟨M, r, S, en, rh, ?_⟩
  unfold eFrz at p
  cases q : ds r S with
  | ok xs S1 =>
    rw [q] at p
    rintro M' v H' e rh' ⟨pa, vs, rfl, h1, h2, h3, h4, h5⟩
    obtain ⟨M2, x1, x2, x3, _, _⟩ := frz_new e rh' h1 h2 h3 h4 h5
    exact p M2 _ H' x1 x2 x3
  | exc c fs S1 => rw [q] at p; exact p
  | bad => rw [q] at p; exact p
theorem se_frz (h : SN X W e ds) : SE X W e (eFrz ds) := h.dimp fun _ _ _ => frz_t
/-- a list that changes -/
theorem new_t {G : Gx} {s : L2.St} {H : Hp} {Q : VK} (h : tE G W (eNew ds) s H Q) : tN G W ds s H Q := by
  obtain ⟨M, r, S, en, rh, p⟩ := h
  refine ⟨M, r, S, en, rh, ?_⟩
  unfold eNew at p
  cases q : ds r S with
  | ok xs S1 =>
    rw [q] at p
    rintro M' v H' e rh' ⟨pa, vs, rfl, h1, h2, h3, h4, h5⟩
    obtain ⟨M2, x1, x2, x3⟩ := loc_new e rh' h1 h2 h3 h4 h5
    exact p M2 _ H' x1 x2 x3
  | exc c fs S1 => rw [q] at p; exact p
  | bad => rw [q] at p; exact p
theorem se_new (h : SN X W e ds) : SE X W e (eNew ds) := h.dimp fun _ _ _ => new_t
/-- a display -/
theorem sn_lst (h : SA X W es ds) : SN X W (.List es pos) (nLst ds) := by
  refine (pe_lst h).dimp ?_
  rintro s H Q ⟨M, r, S, en, rh, p⟩
  refine ⟨M, r, S, en, rh, (Post.bind (R := RA (gx X)) p).imp fun vs H1 h => ?_⟩
  obtain ⟨M1, xs, S1, e1, rh1, rd1, p1⟩ := h
  split at p1
  · rename_i hl
    refine ⟨by rw [← rd1.len]; exact hl, fun q hq => ?_⟩
    refine p1 M1 _ _ (Ext.other hq) (rh1.other hq) ⟨q, vs, rfl, upd_same, rd1, rh1.noloc hq, rh1.nolst hq, ?_⟩
    cases z : H q with
    | none => rfl
    | some o =>
      obtain ⟨o', z'⟩ := e1.there q o z
      rw [hq] at z'; cases z'
  · exact p1.elim
end
/-! ### what is walked -/
/-- an iterator that walks these -/
def WalkOk (G : Gx) (M : Mp) (J : It) (w : Wk) : Prop := ∀ (i : Nat) (M1 : Mp) (S : Store) (H : Hp), Le M M1 → RelH G M1 S H → w.ok S →
  (i < w.xs.length → J.go i H ∧ ∀ x H', J.yld i H x H' → ∃ M2 d, Ext M1 H M2 H' ∧ RelH G M2 S H' ∧ w.xs[i]? = some d ∧ RelD G M2 d x) ∧ (w.xs.length ≤ i → J.stop i H)
def RW (G : Gx) : Mp → Hp → Wk → It → Prop := fun M _ w J => WalkOk G M J w ∧ w.xs.length ≤ sizeLine
def tI (G : Gx) (W : WX) (d : DI) : TI := fun s H R => ∃ M r S, EnvR G M H r s ∧ RelH G M S H ∧ Post G (RW G) W M H s (d r S) R
abbrev SI (X : Cx) (W : WX) (tg e : Expr) (d : DI) : Prop := PI X tg e (tI (gx X) W d)
theorem PI_dimp {X : Cx} {tg e : Expr} {t t' : TI} (h : PI X tg e t) (k : ∀ s H R, t' s H R → t s H R) : PI X tg e t' := ⟨fun pins st s H R I q => h.run pins st s H R I (k s H R q)⟩
/-- how a list lies that is walked -/
def LstAt (G : Gx) (M : Mp) (w : Wk) (p : Addr) : Prop := ∀ (M1 : Mp) (S : Store) (H : Hp), Le M M1 → RelH G M1 S H → w.ok S → ∃ vs, SqL G.K H p vs ∧ RelDs G M1 w.xs vs
theorem lst_at {G : Gx} {M : Mp} {S : Store} {H : Hp} {d : D} {v : V} {w : Wk} (rh : RelH G M S H) (rd : RelD G M d v) (h : wkL S d = some w) : ∃ p vs, v = .ref p ∧ LstAt G M w p ∧ SqL G.K H p vs ∧ RelDs G M w.xs vs := by
  cases d with
  | lst xs =>
    cases h
    obtain ⟨p, vs, rfl, h1, h2⟩ := rd
    exact ⟨p, vs, rfl, fun M1 S1 H1 le rh1 _ => ⟨vs, rh1.sq (h1.imp (le.lst p vs) id), RelDs.le le h2⟩, rh.sq h1, h2⟩
  | ref l =>
    obtain ⟨p, rfl, h1⟩ := rd
    dsimp only [wkL, wkOf] at h
    split at h
    · rename_i xs q
      cases h
      obtain ⟨a, e1, vs, e2, e3⟩ := rh.obj l _ q
      rw [h1] at e1; cases e1
      refine ⟨p, vs, rfl, fun M1 S1 H1 le rh1 hk => ?_, .inl (.inl e2), e3⟩
      obtain ⟨a, x1, ws, x2, x3⟩ := rh1.obj l _ hk
      rw [le.loc l p h1] at x1; cases x1
      exact ⟨ws, .inl (.inl x2), x3⟩
    · cases h
  | _ => cases h
theorem walk_list {G : Gx} {M : Mp} {p : Addr} {w : Wk} (hl : LstAt G M w p) : WalkOk G M (Itl G.K p) w := by
  intro i M1 S H le rh hk
  obtain ⟨vs, hs, h2⟩ := hl M1 S H le rh hk
  refine ⟨fun hi => ?_, fun hi => ⟨vs, hs, by rw [← h2.len]; exact hi⟩⟩
  obtain ⟨d, hd⟩ : ∃ d, w.xs[i]? = some d := ⟨w.xs[i], by simp [hi]⟩
  obtain ⟨v, hv, rv⟩ := h2.get hd
  refine ⟨⟨vs, v, hs, hv⟩, fun x H' y => ?_⟩
  obtain ⟨rfl, y⟩ := y
  have := y vs hs
  rw [hv] at this
  cases this
  exact ⟨M1, d, Ext.refl, rh, hd, rv⟩
theorem walk_tup {G : Gx} {M : Mp} {p : Addr} {vs : List V} {xs : List D} (h1 : M.tup p = some vs ∨ SqT G.K noHp p vs) (h2 : RelDs G M xs vs) : WalkOk G M (Itt G.K p) (wkS xs) := by
  intro i M1 S H le rh _
  have hs : SqT G.K H p vs := by
    rcases h1 with h1 | h1
    · exact .inl (.inl (rh.tup p vs (le.tup p vs h1)))
    · rcases h1 with z | z
      · rcases z with z | ⟨_, z⟩ <;> cases z
      · exact .inr z
  refine ⟨fun hi => ?_, fun hi => ⟨vs, hs, by rw [← h2.len]; exact hi⟩⟩
  obtain ⟨d, hd⟩ : ∃ d, (wkS xs).xs[i]? = some d := ⟨(wkS xs).xs[i], by simp [hi]⟩
  obtain ⟨v, hv, rv⟩ := h2.get hd
  refine ⟨⟨vs, v, hs, hv⟩, fun x H' y => ?_⟩
  obtain ⟨rfl, y⟩ := y
  have := y vs hs
  rw [hv] at this
  cases this
  exact ⟨M1, d, Ext.refl, rh, hd, RelD.le le rv⟩
theorem walk_range {G : Gx} {M : Mp} (lo hi : Int) : WalkOk G M (Itr lo (hi - lo).toNat) (wkS (rangeD lo hi)) := by
  intro i M1 S H le rh _
  have hl : (wkS (rangeD lo hi)).xs.length = (hi - lo).toNat := by simp [rangeD, wkS]
  refine ⟨fun h => ?_, fun h => by show (hi - lo).toNat ≤ i; omega⟩
  refine ⟨by show i < (hi - lo).toNat; omega, fun x H' y => ?_⟩
  obtain ⟨rfl, rfl⟩ := y
  refine ⟨M1, .int (lo + i), Ext.refl, rh, ?_, rfl⟩
  rw [hl] at h
  simp [rangeD, wkS, h]
/-- a tuple or a list, whichever it is -/
def iSeq (K : PySem.W.Frag) (tl : TE) : TI := fun s H R => tl s H fun x H1 => ∃ a, x = .ref a ∧ ((∃ xs, SqL K H1 a xs ∧ (xs.length ≤ sizeLine → R (Itl K a) H1)) ∨ (∃ xs, SqT K H1 a xs ∧ (xs.length ≤ sizeLine → R (Itt K a) H1)))
theorem pi_seq {X : Cx} {tg l : Expr} {tl : TE} (hl : PE X l tl) : PI X tg l (iSeq X.K tl) := by
  refine ⟨fun pins s z H R I h => ?_⟩
  refine thn (hl.run pins s z H _ I h) fun v s1 ⟨x, H1, I1, r1, q1⟩ => ?_
  obtain ⟨a, e, q⟩ := q1
  subst e
  cases r1
  rcases q with ⟨xs, hq, q⟩ | ⟨xs, hq, q⟩
  · obtain ⟨its, rv, p, hz⟩ := I1.list hq
    replace q := q hz
    refine wpAny_pyIter_list p.isList ?_
    refine ⟨s1.heap.objs.size, [s1.heap.objs.size], _, _, H1, rfl, I1.kept (t' := s1.toks) fun b o e => Heap.get?_push_of_some _ e, turn_list a _, ⟨_, Heap.get?_push_size _ rfl, rfl, rfl⟩, fun b hb => ?_, q⟩
    have e : b = s1.heap.objs.size := by simpa using hb
    subst e
    exact I1.fpOk (Nat.le_refl _) (I1.hok.fresh (Nat.le_refl _))
  · obtain ⟨its, rv, p, hz⟩ := I1.tuple hq
    replace q := q hz
    refine wpAny_pyIter_tuple (show s1.heap.IsTuple a its.toArray from p) ?_
    refine ⟨s1.heap.objs.size, [s1.heap.objs.size], _, _, H1, rfl, I1.kept (t' := s1.toks) fun b o e => Heap.get?_push_of_some _ e, turn_tuple a _, ⟨_, Heap.get?_push_size _ rfl, rfl, rfl⟩, fun b hb => ?_, q⟩
    have e : b = s1.heap.objs.size := by simpa using hb
    subst e
    exact I1.fpOk (Nat.le_refl _) (I1.hok.fresh (Nat.le_refl _))
section
variable {X : Cx} {W : WX} {a b c e tg : Expr} {es : List Expr} {da db dc : DE} {ds : DA} {dl : DL} {pos : Pos}
theorem si_seq (h : SE X W a da) : SI X W tg a (iSeqD da) := by
  refine PI_dimp (pi_seq h) ?_
  rintro s H Q ⟨M, r, S, en, rh, p⟩
  refine ⟨M, r, S, en, rh, p.bind.imp fun v H1 h => ?_⟩
  obtain ⟨M1, x, S1, e1, rh1, rd1, p1⟩ := h
  have go : ∀ {w : Wk}, wkL S1 x = some w → Post (gx X) (RW (gx X)) W M1 H1 s (.ok w S1) Q → ∃ a, v = .ref a ∧ ((∃ xs, SqL X.K H1 a xs ∧ (xs.length ≤ sizeLine → Q (Itl X.K a) H1)) ∨ (∃ xs, SqT X.K H1 a xs ∧ (xs.length ≤ sizeLine → Q (Itt X.K a) H1))) := fun {w} hw p1 => by
    obtain ⟨q, vs, rfl, h1, h2, h3⟩ := lst_at rh1 rd1 hw
    exact ⟨q, rfl, .inl ⟨vs, h2, fun hz => p1 M1 _ H1 Ext.refl rh1 ⟨walk_list h1, by rw [h3.len]; exact hz⟩⟩⟩
  cases x with
  | tup xs =>
    obtain ⟨q, vs, rfl, h1, h2⟩ := rd1
    have h3 : SqT X.K H1 q vs := by
      rcases h1 with h1 | h1
      · exact .inl (.inl (rh1.tup q vs h1))
      · rcases h1 with z | z
        · rcases z with z | ⟨_, z⟩ <;> cases z
        · exact .inr z
    exact ⟨q, rfl, .inr ⟨vs, h3, fun hz => p1 M1 _ H1 Ext.refl rh1 ⟨walk_tup h1 h2, by show xs.length ≤ _; rw [h2.len]; exact hz⟩⟩⟩
  | lst xs => exact go rfl p1
  | ref l =>
    cases q : wkOf S1 (.ref l) with
    | none => rw [q] at p1; exact p1.elim
    | some w => rw [q] at p1; exact go q p1
  | _ => exact p1.elim
theorem enumD_at : ∀ (k : Nat) (xs : List D) (i : Nat), (enumD k xs)[i]? = (xs[i]?).map fun x => .tup [.int ((k + i : Nat) : Int), x]
  | _, [], _ => by simp [enumD]
  | k, x :: xs, 0 => by simp [enumD]
  | k, x :: xs, i + 1 => by
    simp only [enumD, List.getElem?_cons_succ]
    rw [enumD_at (k + 1) xs i]
    have : k + 1 + i = k + (i + 1) := by omega
    rw [this]
theorem enumD_len : ∀ (k : Nat) (xs : List D), (enumD k xs).length = xs.length
  | _, [] => rfl
  | k, _ :: xs => by simp [enumD, enumD_len (k + 1) xs]
theorem walk_enum {G : Gx} {M : Mp} {p : Addr} {w : Wk} (hl : LstAt G M w p) : WalkOk G M (Ite G.K p) ⟨enumD 0 w.xs, w.ok⟩ := by
  intro i M1 S H le rh hk
  obtain ⟨vs, hs, h2⟩ := hl M1 S H le rh hk
  refine ⟨fun hi => ?_, fun hi => ⟨vs, hs, by rw [← h2.len]; have hi : (enumD 0 w.xs).length ≤ i := hi; rw [enumD_len] at hi; exact hi⟩⟩
  have hi : i < (enumD 0 w.xs).length := hi
  rw [enumD_len] at hi
  obtain ⟨d, hd⟩ : ∃ d, w.xs[i]? = some d := ⟨w.xs[i], by simp [hi]⟩
  obtain ⟨v, hv, rv⟩ := h2.get hd
  refine ⟨⟨vs, v, hs, hv⟩, fun x H' y => ?_⟩
  obtain ⟨T, z, rfl, hT, rfl, y⟩ := y
  have := y vs hs
  rw [hv] at this
  cases this
  have rds : RelDs G M1 [.int (i : Nat), d] [.int (i : Nat), v] := RelDs.cons rfl (RelDs.cons rv rfl)
  obtain ⟨M2, x1, x2, x3⟩ := Ext.tupNew rh hT rds
  refine ⟨M2, .tup [.int (i : Nat), d], x1, x2, ?_, x3⟩
  show (enumD 0 w.xs)[i]? = _
  rw [enumD_at, hd]
  simp
theorem si_enum (h : PI X tg e (iEnum X.K (tCons (tE (gx X) W da) tNil))) : SI X W tg e (iEnumD da) := by
  refine PI_dimp h ?_
  rintro s H Q ⟨M, r, S, en, rh, p⟩
  refine ⟨M, r, S, en, rh, p.bind.imp fun v H1 h => ?_⟩
  obtain ⟨M1, x, S1, e1, rh1, rd1, p1⟩ := h
  cases q : wkL S1 x with
  | none => rw [q] at p1; exact p1.elim
  | some w =>
    rw [q] at p1
    obtain ⟨q, vs, rfl, h1, h2, h3⟩ := lst_at rh1 rd1 q
    dsimp only at p1
    split at p1
    · rename_i hz
      exact ⟨q, vs, rfl, h2, p1 M1 _ H1 Ext.refl rh1 ⟨walk_enum h1, by show (enumD 0 w.xs).length ≤ sizeLine; rw [enumD_len]; exact hz⟩⟩
    · exact p1.elim
theorem si_range1 (h : PI X tg e (iRng1 (tCons (tE (gx X) W da) tNil))) : SI X W tg e (iRange1 da) := by
  refine PI_dimp h ?_
  rintro s H Q ⟨M, r, S, en, rh, p⟩
  refine ⟨M, r, S, en, rh, p.bind.imp fun v H1 h => ?_⟩
  obtain ⟨M1, x, S1, e1, rh1, rd1, p1⟩ := h
  cases x with
  | int j =>
    cases (show _ = _ from rd1)
    dsimp only at p1
    split at p1
    · rename_i hc
      unfold rOk at hc
      simp only [Bool.and_eq_true, decide_eq_true_eq] at hc
      have w := walk_range (G := gx X) (M := M1) 0 j
      rw [Int.sub_zero] at w
      exact ⟨j, rfl, hc.1.1, hc.1.2, p1 M1 _ H1 Ext.refl rh1 ⟨w, by simp only [wkS, rangeD, List.length_map, List.length_range]; have := hc.2; omega⟩⟩
    · exact p1.elim
  | _ => exact p1.elim
theorem si_range2 (h : PI X tg e (iRng2 (tCons (tE (gx X) W da) (tCons (tE (gx X) W db) tNil)))) : SI X W tg e (iRange2 da db) := by
  refine PI_dimp h ?_
  rintro s H Q ⟨M, r, S, en, rh, p⟩
  refine ⟨M, r, S, en, rh, (bind2 en p).imp fun v H1 h => ?_⟩
  obtain ⟨M1, S1, e1, rh1, en1, p1⟩ := h
  refine ⟨M1, r, S1, en1, rh1, p1.imp fun u H2 h => ?_⟩
  obtain ⟨M2, x, y, S2, e2, rh2, en2, rd1, rd2, p2⟩ := h
  split at p2
  · rename_i i j
    split at p2
    · rename_i hc
      unfold rOk at hc
      simp only [Bool.and_eq_true, decide_eq_true_eq] at hc
      cases (show _ = _ from rd1)
      cases (show _ = _ from rd2)
      exact ⟨i, j, rfl, ⟨hc.1.1.1, hc.1.1.2, hc.1.2.1, hc.1.2.2⟩, p2 M2 _ H2 Ext.refl rh2 ⟨walk_range i j, by simp only [wkS, rangeD, List.length_map, List.length_range]; have := hc.2; omega⟩⟩
    · exact p2.elim
  · exact p2.elim
/-! ### targets -/
/-- some names got values -/
structure Upd (G : Gx) (M : Mp) (is : List Nat) (r : Rho) (s : L2.St) (r' : Rho) (s' : L2.St) : Prop where
  lr : r'.length = r.length
  ls : s'.length = s.length
  eq : ∀ (i : Nat), (r'[i]? = r[i]? ∧ s'[i]? = s[i]?) ∨ (i ∈ is ∧ ∃ d v, r'[i]? = some (Sl.val d) ∧ s'[i]? = some (some v) ∧ RelD G M d v)
theorem Upd.refl {G : Gx} {M : Mp} {is : List Nat} {r : Rho} {s : L2.St} : Upd G M is r s r s := ⟨rfl, rfl, fun _ => .inl ⟨rfl, rfl⟩⟩
theorem Upd.trans {G : Gx} {M : Mp} {is js : List Nat} {r r1 r2 : Rho} {s s1 s2 : L2.St} (a : Upd G M is r s r1 s1) (b : Upd G M js r1 s1 r2 s2) : Upd G M (is ++ js) r s r2 s2 :=
  ⟨b.lr.trans a.lr, b.ls.trans a.ls, fun i => by
    rcases b.eq i with ⟨h1, h2⟩ | ⟨hj, h⟩
    · rcases a.eq i with ⟨k1, k2⟩ | ⟨hi, d, v, k1, k2, k3⟩
      · exact .inl ⟨h1.trans k1, h2.trans k2⟩
      · exact .inr ⟨List.mem_append_left _ hi, d, v, h1.trans k1, h2.trans k2, k3⟩
    · exact .inr ⟨List.mem_append_right _ hj, h⟩⟩
theorem Upd.set {G : Gx} {M : Mp} {r : Rho} {s : L2.St} {i : Nat} {d : D} {v : V} (hl : r.length = s.length) (hi : i < r.length) (h : RelD G M d v) : Upd G M [i] r s (r.set i (.val d)) (s.set i (some v)) :=
  ⟨List.length_set, List.length_set, fun j => by
    by_cases e : j = i
    · subst e
      exact .inr ⟨by simp, d, v, List.getElem?_set_self hi, List.getElem?_set_self (by omega), h⟩
    · exact .inl ⟨List.getElem?_set_ne (Ne.symm e), List.getElem?_set_ne (Ne.symm e)⟩⟩
theorem EnvR.upd {G : Gx} {M : Mp} {H : Hp} {is : List Nat} {r r' : Rho} {s s' : L2.St} (h : EnvR G M H r s) (u : Upd G M is r s r' s') : EnvR G M H r' s' := by
  refine ⟨by rw [u.lr, u.ls]; exact h.len, fun i x q => ?_, fun i j xs ys a h1 h2 h3 h4 => ?_⟩
  · rcases u.eq i with ⟨e1, e2⟩ | ⟨_, d, v, e1, e2, e3⟩
    · rw [e1] at q
      rw [e2]
      exact h.sl i x q
    · rw [e1] at q
      cases q
      exact ⟨_, e2, v, rfl, e3⟩
  · have back : ∀ (k : Nat) (zs : List D), r'[k]? = some (Sl.own zs) → r[k]? = some (Sl.own zs) ∧ s'[k]? = s[k]? := fun k zs q => by
      rcases u.eq k with ⟨e1, e2⟩ | ⟨_, d, v, e1, _, _⟩
      · exact ⟨by rw [← e1]; exact q, e2⟩
      · rw [e1] at q; cases q
    obtain ⟨b1, b2⟩ := back i xs h1
    obtain ⟨b3, b4⟩ := back j ys h2
    exact h.apt i j xs ys a b1 b3 (b2 ▸ h3) (b4 ▸ h4)
theorem Wst.upd {G : Gx} {M0 : Mp} {H0 : Hp} {M : Mp} {H : Hp} {is : List Nat} {r r' : Rho} {S : Store} {s s' : L2.St} (h : Wst G M0 H0 M r S s H) (u : Upd G M is r s r' s') : Wst G M0 H0 M r' S s' H :=
  ⟨h.env.upd u, h.heap, h.ext, fun i xs a h1 h2 => by
    rcases u.eq i with ⟨e1, e2⟩ | ⟨_, d, v, e1, _, _⟩
    · exact h.own i xs a (by rw [← e1]; exact h1) (by rw [← e2]; exact h2)
    · rw [e1] at h1; cases h1⟩
def GOk (G : Gx) (is : List Nat) (g : TG) (d : DG) : Prop := ∀ (M : Mp) (H : Hp) (r r' : Rho) (s : L2.St) (S : Store) (x : D) (v : V) (Q : L2.St → Hp → Prop), r.length = s.length → RelH G M S H → RelD G M x v → d x r S = some r' →
  (∀ s', Upd G M is r s r' s' → Q s' H) → g v s H Q
def GsOk (G : Gx) (is : List Nat) (g : TGs) (d : List D → Rho → Store → Option Rho) : Prop := ∀ (M : Mp) (H : Hp) (r r' : Rho) (s : L2.St) (S : Store) (xs : List D) (vs : List V) (Q : L2.St → Hp → Prop), r.length = s.length → RelH G M S H → RelDs G M xs vs → d xs r S = some r' →
  (∀ s', Upd G M is r s r' s' → Q s' H) → g vs s H Q
theorem g_name {G : Gx} {i : Nat} : GOk G [i] (gName i) (gNameD i) := by
  intro M H r r' s S x v Q hl rh rd e k
  unfold gNameD at e
  split at e
  · rename_i hi
    cases e
    exact k _ (Upd.set hl hi rd)
  · cases e
theorem gs_nil {G : Gx} : GsOk G [] gNil gsNil := by
  intro M H r r' s S xs vs Q hl rh rd e k
  unfold gsNil at e
  cases xs with
  | nil =>
    cases e
    cases (show _ = _ from rd)
    exact ⟨rfl, k s Upd.refl⟩
  | cons _ _ => cases e
theorem gs_cons {G : Gx} {is js : List Nat} {g : TG} {h : TGs} {d : DG} {ds : List D → Rho → Store → Option Rho} (h1 : GOk G is g d) (h2 : GsOk G js h ds) : GsOk G (is ++ js) (gCons g h) (gsCons d ds) := by
  intro M H r r' s S xs vs Q hl rh rd e k
  unfold gsCons at e
  cases xs with
  | nil => cases e
  | cons x xs =>
    obtain ⟨v, vs', rfl, rd1, rd2⟩ := rd
    dsimp only at e
    cases q : d x r S with
    | none => rw [q] at e; cases e
    | some r1 =>
      rw [q] at e
      refine ⟨v, vs', rfl, h1 M H r r1 s S x v _ hl rh rd1 q fun s1 u1 => ?_⟩
      exact h2 M H r1 r' s1 S xs vs' Q (by rw [u1.lr, u1.ls]; exact hl) rh rd2 e fun s2 u2 => k s2 (u1.trans u2)
theorem g_tup {G : Gx} {n : Nat} {is : List Nat} {h : TGs} {ds : List D → Rho → Store → Option Rho} (h2 : GsOk G is h ds) : GOk G is (gTup G.K n h) (gTupD n ds) := by
  intro M H r r' s S x v Q hl rh rd e k
  unfold gTupD at e
  cases x with
  | tup xs =>
    dsimp only at e
    split at e
    · rename_i hn
      obtain ⟨p, vs, rfl, q1, q2⟩ := tup_ok rh rd
      exact ⟨p, vs, rfl, q1, by rw [← q2.len]; exact hn, h2 M H r r' s S xs vs Q hl rh q2 e k⟩
    · cases e
  | _ => cases e
end
/-! ### comprehensions -/
theorem wipe_at {s : L2.St} {i : Nat} : ∀ {vs : List Nat}, i ∈ vs → (wipe s vs)[i]? = if i < s.length then some none else none
  | [], h => absurd h (by simp)
  | v :: vs, h => by
    unfold wipe
    by_cases e : v = i
    · subst e
      by_cases hi : v < s.length
      · rw [if_pos hi, List.getElem?_set_self (by rw [wipe_length]; exact hi)]
      · rw [if_neg hi, List.getElem?_eq_none (by rw [List.length_set, wipe_length]; omega)]
    · rw [List.getElem?_set_ne e]
      exact wipe_at (by rcases List.mem_cons.mp h with z | z; exact absurd z.symm e; exact z)
theorem wipe_same {s s' : L2.St} {vs : List Nat} (hl : s'.length = s.length) (h : ∀ i, i ∉ vs → s'[i]? = (wipe s vs)[i]?) : wipe s' vs = wipe s vs := by
  apply List.ext_getElem?
  intro i
  by_cases hi : i ∈ vs
  · rw [wipe_at hi, wipe_at hi, hl]
  · rw [wipe_out hi, h i hi]
theorem wipeD_len {r : Rho} : ∀ {vs : List Nat}, (wipeD r vs).length = r.length
  | [] => rfl
  | v :: vs => by unfold wipeD; rw [List.length_set, wipeD_len]
theorem EnvR.wipe {G : Gx} {M : Mp} {H : Hp} {r : Rho} {s : L2.St} (h : EnvR G M H r s) : ∀ {vs : List Nat}, EnvR G M H (wipeD r vs) (L2.wipe s vs)
  | [] => h
  | v :: vs => by
    have ih := EnvR.wipe h (vs := vs)
    unfold wipeD L2.wipe
    refine ⟨by rw [List.length_set, List.length_set]; exact ih.len, fun i x q => ?_, fun i j xs ys a h1 h2 h3 h4 => ?_⟩
    · by_cases e : i = v
      · subst e
        have hi : i < (wipeD r vs).length := by
          have := (List.getElem?_eq_some_iff.mp q).1
          rwa [List.length_set] at this
        rw [List.getElem?_set_self hi] at q
        cases q
        exact ⟨none, List.getElem?_set_self (by rw [← ih.len]; exact hi), trivial⟩
      · rw [List.getElem?_set_ne (Ne.symm e)] at q ⊢
        exact ih.sl i x q
    · have back : ∀ (k : Nat) (zs : List D), ((wipeD r vs).set v .un)[k]? = some (Sl.own zs) → k ≠ v ∧ (wipeD r vs)[k]? = some (Sl.own zs) := fun k zs q => by
        by_cases e : k = v
        · subst e
          have hi : k < (wipeD r vs).length := by
            have := (List.getElem?_eq_some_iff.mp q).1
            rwa [List.length_set] at this
          rw [List.getElem?_set_self hi] at q
          cases q
        · rw [List.getElem?_set_ne (Ne.symm e)] at q
          exact ⟨e, q⟩
      obtain ⟨e1, b1⟩ := back i xs h1
      obtain ⟨e2, b2⟩ := back j ys h2
      rw [List.getElem?_set_ne (Ne.symm e1)] at h3
      rw [List.getElem?_set_ne (Ne.symm e2)] at h4
      exact ih.apt i j xs ys a b1 b2 h3 h4
theorem Post.noX {a b : Type} {a2 b2 : Type} {G : Gx} {R : Mp → Hp → a → b → Prop} {R2 : Mp → Hp → a2 → b2 → Prop} {W : WX} {M : Mp} {H : Hp} {s s' : L2.St} {Q2 : b2 → Hp → Prop} {x : Rs a} {f : a → Store → Rs a2} (h : Post G R2 W M H s ((noX x).bind f) Q2) :
    Post G R (fun _ _ _ _ => False) M H s' x fun y H1 => ∃ M1 v S1, Ext M H M1 H1 ∧ RelH G M1 S1 H1 ∧ R M1 H1 v y ∧ Post G R2 W M1 H1 s (f v S1) Q2 := by
  cases x with
  | ok v S => exact fun M1 y H1 e rh q => ⟨M1, v, S, e, rh, q, Post.mono e h⟩
  | exc c fs S => exact h.elim
  | bad => exact h
theorem Rs.bind_assoc {a b c : Type} (x : Rs a) (f : a → Store → Rs b) (g : b → Store → Rs c) : (x.bind f).bind g = x.bind fun v S => (f v S).bind g := by cases x <;> rfl
theorem Rs.bind_eta {a : Type} (x : Rs a) : (x.bind fun v S => .ok v S) = x := by cases x <;> rfl
/-- an object that no one knows changes -/
theorem RelH.unk {G : Gx} {M : Mp} {S : Store} {H : Hp} {p : Addr} {vs : List V} {o : HO} (rh : RelH G M S H) (hp : H p = some (.lst vs)) (n1 : ∀ l, M.loc l ≠ some p) (n2 : M.lst p = none) : RelH G M S (upd H p o) := by
  refine ⟨fun l x q => ?_, rh.dom, rh.inj, fun a x h => ?_, fun a x h => ?_, rh.apt, tabs_set rh.tabs hp (fun _ z => by cases z) fun _ _ => code_ne fun _ z => by cases z⟩
  · obtain ⟨a, e1, e2⟩ := rh.obj l x q
    refine ⟨a, e1, ?_⟩
    rw [upd_ne (fun z => n1 l (by rw [← z]; exact e1))]
    exact e2
  · have := rh.tup a x h
    have q : a ≠ p := fun q => by rw [q, hp] at this; cases this
    rw [upd_ne q]; exact this
  · have q : a ≠ p := fun q => by rw [q, n2] at h; cases h
    rcases rh.lst a x h with z | ⟨o, z⟩
    · exact .inl (by rw [upd_ne q]; exact z)
    · exact .inr ⟨o, by rw [upd_ne q]; exact z⟩
theorem Ext.unk {M M' : Mp} {H H' : Hp} {p : Addr} {o : HO} (e : Ext M H M' H') (hp : H p = none) : Ext M H M' (upd H' p o) := by
  have ne : ∀ b o, H b = some o → b ≠ p := fun b o h q => by rw [q, hp] at h; cases h
  exact ⟨e.loc, e.tup, e.lst, e.new, e.newl, fun a o h n t => by rw [upd_ne (ne a o h)]; exact e.keep a o h n t, fun a o h => by
    obtain ⟨o', h'⟩ := e.there a o h
    exact ⟨o', by rw [upd_ne (ne a o h)]; exact h'⟩⟩
theorem Post.noXb {a b : Type} {a2 b2 : Type} {G : Gx} {R : Mp → Hp → a → b → Prop} {R2 : Mp → Hp → a2 → b2 → Prop} {W : WX} {Mb M : Mp} {Hb H : Hp} {s s' : L2.St} {Q2 : b2 → Hp → Prop} {x : Rs a} {f : a → Store → Rs a2} (h : Post G R2 W Mb Hb s ((Dn.noX x).bind f) Q2) :
    Post G R (fun _ _ _ _ => False) M H s' x fun y H1 => ∃ M1 v S1, Ext M H M1 H1 ∧ RelH G M1 S1 H1 ∧ R M1 H1 v y ∧ Post G R2 W Mb Hb s (f v S1) Q2 := by
  cases x with
  | ok v S => exact fun M1 y H1 e rh q => ⟨M1, v, S, e, rh, q, h⟩
  | exc c fs S => exact h.elim
  | bad => exact h
/-- the reading of a comprehension -/
theorem lc_t {G : Gx} {W : WX} {di : DI} {g : TG} {d : DG} {dt : DT} {de : DE} {is vs : List Nat} {s : L2.St} {H : Hp} {Q : VK} (hg : GOk G is g d) (hv : ∀ i ∈ is, i ∈ vs) (h : tN G W (nLc di d dt de vs) s H Q) :
    tLc (tI G W di) g (tT G (fun _ _ _ _ => False) dt) (tE G (fun _ _ _ _ => False) de) vs s H Q := by
  obtain ⟨M, r, S, en, rh, p⟩ := h
  refine ⟨M, r, S, en, rh, (Post.bind (R := RW G) p).imp fun J H1 h => ?_⟩
  obtain ⟨M1, ⟨xs, ok⟩, S1, e1, rh1, ⟨wk, hz⟩, p1⟩ := h
  dsimp only at hz p1
  intro p0 hp0
  have en1 := (en.mono e1).wipe (vs := vs)
  have h0 : H p0 = none := by
    cases z : H p0 with
    | none => rfl
    | some o =>
      obtain ⟨o', z'⟩ := e1.there p0 o z
      rw [hp0] at z'; cases z'
  refine ⟨fun i m H2 => m = xs.length - i ∧ i ≤ xs.length ∧ ∃ M2 S2 acc ys, Ext M1 H1 M2 H2 ∧ RelH G M2 S2 H2 ∧ H2 p0 = some (.lst acc) ∧ RelDs G M2 ys acc ∧ (∀ l, M2.loc l ≠ some p0) ∧ M2.lst p0 = none ∧ acc.length ≤ i ∧
    Post G (RN G H) W M1 H1 s ((lcGo ok d dt de (wipeD r vs) (xs.drop i) S2).bind fun zs S => .ok (ys ++ zs) S) Q, ⟨xs.length, by simp, Nat.zero_le _, M1, S1, [], [], Ext.other hp0, rh1.other hp0, upd_same, RelDs.nil, rh1.noloc hp0, rh1.nolst hp0, Nat.zero_le _, ?_⟩, ?_⟩
  · simp only [List.drop_zero, List.nil_append]
    rw [Rs.bind_eta]
    exact p1
  rintro i m H2 ⟨rfl, hi, M2, S2, acc, ys, e2, rh2, hacc, rd2, n1, n2, hl, pp⟩
  have hok : ok S2 := by
    cases q : xs.drop i with
    | nil =>
      rw [q] at pp
      unfold lcGo at pp
      split at pp
      · assumption
      · exact pp.elim
    | cons _ _ =>
      rw [q] at pp
      unfold lcGo at pp
      split at pp
      · assumption
      · exact pp.elim
  obtain ⟨wgo, wstop⟩ := wk i M2 S2 H2 e2.le rh2 hok
  by_cases hlt : i < xs.length
  · refine .inr ⟨(wgo hlt).1, ?_⟩
    refine ⟨fun H' => i + 1 ≤ xs.length ∧ ∃ M2 S2 acc ys, Ext M1 H1 M2 H' ∧ RelH G M2 S2 H' ∧ H' p0 = some (.lst acc) ∧ RelDs G M2 ys acc ∧ (∀ l, M2.loc l ≠ some p0) ∧ M2.lst p0 = none ∧ acc.length ≤ i + 1 ∧
      Post G (RN G H) W M1 H1 s ((lcGo ok d dt de (wipeD r vs) (xs.drop (i + 1)) S2).bind fun zs S => .ok (ys ++ zs) S) Q, fun H' h => ⟨xs.length - (i + 1), by omega, rfl, h⟩, fun x H3 y => ?_⟩
    obtain ⟨M3, dx, e3, rh3, hdx, rd3⟩ := (wgo hlt).2 x H3 y
    have hdrop : xs.drop i = dx :: xs.drop (i + 1) := by
      have e : xs[i] = dx := by
        have := hdx
        rw [List.getElem?_eq_getElem hlt] at this
        exact Option.some.inj this
      rw [List.drop_eq_getElem_cons hlt, e]
    rw [hdrop] at pp
    unfold lcGo at pp
    rw [if_pos hok] at pp
    cases hgd : d dx (wipeD r vs) S2 with
    | none => rw [hgd] at pp; exact pp.elim
    | some r2 =>
      rw [hgd] at pp
      dsimp only at pp
      rw [Rs.bind_assoc] at pp
      have en3 := (en1.mono e2).mono e3
      refine hg M3 H3 (wipeD r vs) r2 (L2.wipe s vs) S2 dx x _ en3.len rh3 rd3 hgd fun s2 u => ⟨?_, ?_⟩
      · refine wipe_same (by rw [u.ls, wipe_length]) fun j hj => ?_
        rcases u.eq j with ⟨_, q⟩ | ⟨q, _⟩
        · exact q
        · exact absurd (hv j q) hj
      have keep : ∀ {M4 : Mp} {H4 : Hp}, Ext M2 H2 M4 H4 → H4 p0 = some (.lst acc) ∧ (∀ l, M4.loc l ≠ some p0) ∧ M4.lst p0 = none := fun {M4} {H4} e4 => by
        refine ⟨e4.keep _ _ hacc n1 (fun _ z => by cases z), fun l q => ?_, ?_⟩
        · rcases e4.new l p0 q with z | z
          · exact n1 l z
          · rw [hacc] at z; cases z
        · cases q : M4.lst p0 with
          | none => rfl
          | some z =>
            rcases e4.newl p0 z q with w | w
            · rw [n2] at w; cases w
            · rw [hacc] at w; cases w
      refine ⟨M3, r2, S2, en3.upd u, rh3, (Post.noXb (R := RB) pp).imp fun b H4 h => ?_⟩
      obtain ⟨M4, b', S4, e4, rh4, rb, p4⟩ := h
      obtain rfl : b' = b := rb
      cases b' with
      | false =>
        simp only [Bool.false_eq_true, if_false] at p4 ⊢
        obtain ⟨k1, k2, k3⟩ := keep (e3.trans e4)
        exact ⟨hlt, M4, S4, acc, ys, (e2.trans e3).trans e4, rh4, k1, rd2.mono (e3.trans e4), k2, k3, by omega, p4⟩
      | true =>
        simp only [if_true] at p4 ⊢
        rw [Rs.bind_assoc] at p4
        refine ⟨M4, r2, S4, (en3.upd u).mono e4, rh4, (Post.noXb (R := RD G) p4).imp fun v H5 h => ?_⟩
        obtain ⟨M5, y5, S5, e5, rh5, rv, p5⟩ := h
        have e25 := (e3.trans e4).trans e5
        obtain ⟨k1, k2, k3⟩ := keep e25
        refine ⟨acc, k1, by omega, hlt, M5, S5, acc ++ [v], ys ++ [y5], ((e2.trans e3).trans (e4.trans e5)).unk hp0, rh5.unk k1 k2 k3, upd_same, (rd2.mono e25).append (RelDs.nil.cons rv), k2, k3, by simp; omega, ?_⟩
        rw [Rs.bind_assoc] at p5
        simp only [Rs.bind_ok] at p5
        have p6 : Post G (RN G H) W M1 H1 s ((lcGo ok d dt de (wipeD r vs) (xs.drop (i + 1)) S5).bind fun zs S => .ok (ys ++ [y5] ++ zs) S) Q := by
          simpa only [List.append_assoc, List.singleton_append] using p5
        exact p6
  · have e : i = xs.length := by omega
    subst e
    refine .inl ⟨wstop (Nat.le_refl _), ?_⟩
    simp only [List.drop_length, lcGo, if_pos hok, Rs.bind_ok, List.append_nil] at pp
    exact pp M2 _ H2 e2 rh2 ⟨p0, acc, rfl, hacc, rd2, n1, n2, h0⟩
end Dn

end
section
set_option Elab.async false
set_option linter.all false
set_option maxRecDepth 100000
set_option maxHeartbeats 4000000
/-! The rules: statements. -/
namespace Dn
open PySem PySem.Spec PyProof.Rows L2
variable [Tb]
theorem RelFs.le {G : Gx} {M M' : Mp} (e : Le M M') : ∀ {fs : List (Str × D)} {vs : List (Str × V)}, RelFs G M fs vs → RelFs G M' fs vs
  | [], _, h => h
  | (f, d) :: fs, _, h => by
    obtain ⟨v, r, rfl, h1, h2⟩ := h
    exact ⟨v, r, rfl, RelD.le e h1, RelFs.le e h2⟩
section
variable {G : Gx} {M0 : Mp} {H0 : Hp} {W : WX} {D : Ends} {s : L2.St} {H : Hp} {da db : DE} {ds : DA} {dt : DT} {i : Nat}
/-! ### names -/
theorem set_t (h : tS G M0 H0 W (sSet i da) D s H) : tE G W da s H fun x H1 => D.nx (s.set i (some x)) H1 := by
  obtain ⟨M, r, S, w, p⟩ := h
  refine ⟨M, r, S, w.env, w.heap, (PostS.toS (R := RD G) w p).imp fun y H1 h => ?_⟩
  obtain ⟨M1, v, S1, w1, e1, rv, p1⟩ := h
  split at p1
  · rename_i hi
    exact p1 M1 _ H1 (w1.upd (Upd.set w1.env.len hi rv)) Le.refl
  · exact p1.elim
/-- a slot gets a new list of its own -/
theorem Wst.setOwn {M M1 : Mp} {r : Rho} {S S1 : Store} {H1 : Hp} {xs : List Dn.D} {y : V} (w : Wst G M0 H0 M r S s H) (e1 : Ext M H M1 H1) (w1 : Wst G M0 H0 M1 r S1 s H1) (rn : RN G H M1 H1 xs y) (hi : i < r.length) : Wst G M0 H0 M1 (r.set i (.own xs)) S1 (s.set i (some y)) H1 := by
  obtain ⟨p, vs, rfl, h1, h2, h3, h4, h5⟩ := rn
  have hl := w1.env.len
  have apart : ∀ (j : Nat) (ys : List Dn.D) (a : Addr), r[j]? = some (.own ys) → s[j]? = some (some (.ref a)) → a ≠ p := fun j ys a q1 q2 z => by
    obtain ⟨v, k1, k2⟩ := w.env.sl j _ q1
    rw [q2] at k1; cases k1
    obtain ⟨b, zs, k3, k4, _⟩ := k2
    cases k3
    rw [z, h5] at k4; cases k4
  refine ⟨⟨by rw [List.length_set, List.length_set]; exact hl, fun j x q => ?_, fun j k xs' ys' a q1 q2 q3 q4 => ?_⟩, w1.heap, w1.ext, fun j xs' a q1 q2 => ?_⟩
  · by_cases e : j = i
    · subst e
      rw [List.getElem?_set_self hi] at q
      cases q
      exact ⟨_, List.getElem?_set_self (by omega), p, vs, rfl, h1, h2, h3, h4⟩
    · rw [List.getElem?_set_ne (Ne.symm e)] at q ⊢
      exact w1.env.sl j x q
  · by_cases e : j = i <;> by_cases e2 : k = i
    · rw [e, e2]
    · subst e
      rw [List.getElem?_set_self (by omega)] at q3
      cases q3
      rw [List.getElem?_set_ne (Ne.symm e2)] at q2 q4
      exact absurd rfl (apart k _ _ q2 q4)
    · subst e2
      rw [List.getElem?_set_self (by omega)] at q4
      cases q4
      rw [List.getElem?_set_ne (Ne.symm e)] at q1 q3
      exact absurd rfl (apart j _ _ q1 q3)
    · rw [List.getElem?_set_ne (Ne.symm e)] at q1 q3
      rw [List.getElem?_set_ne (Ne.symm e2)] at q2 q4
      exact w1.env.apt j k _ _ a q1 q2 q3 q4
  · by_cases e : j = i
    · subst e
      rw [List.getElem?_set_self (by omega)] at q2
      cases q2
      cases z : H0 p with
      | none => rfl
      | some o =>
        obtain ⟨o', z'⟩ := w.ext.there p o z
        rw [h5] at z'; cases z'
    · rw [List.getElem?_set_ne (Ne.symm e)] at q1 q2
      exact w1.own j _ a q1 q2
theorem own_t (h : tS G M0 H0 W (sSetOwn i ds) D s H) : tN G W ds s H fun x H1 => D.nx (s.set i (some x)) H1 := by
  obtain ⟨M, r, S, w, p⟩ := h
  refine ⟨M, r, S, w.env, w.heap, (PostS.toS (R := RN G H) w p).imp fun y H1 h => ?_⟩
  obtain ⟨M1, v, S1, w1, e1, rv, p1⟩ := h
  split at p1
  · rename_i hi
    exact p1 M1 _ H1 (Wst.setOwn w e1 w1 rv hi) Le.refl
  · exact p1.elim
end
section
variable {X : Cx} {M0 : Mp} {H0 : Hp} {W : WX} {a b e : Expr} {es : List Expr} {da db : DE} {ds : DA} {dt : DT} {d1 d2 : DS} {pos : Pos} {st : Stmt} {rest : List Stmt}
theorem ss_nil : SSs X M0 H0 W [] sNext := by
  refine pss_nil.dimp ?_
  rintro D s H ⟨M, r, S, w, p⟩
  exact p M s H w Le.refl
theorem ss_cons (h1 : SS X M0 H0 W st d1) (h2 : SSs X M0 H0 W rest d2) : SSs X M0 H0 W (st :: rest) (sSeq d1 d2) := by
  refine (pss_cons h1 h2).dimp ?_
  rintro D s H ⟨M, r, S, w, p⟩
  refine ⟨M, r, S, w, ?_⟩
  unfold sSeq at p
  cases q : d1 r S with
  | next r1 S1 =>
    rw [q] at p
    exact fun M1 s1 H1 w1 l1 => ⟨M1, r1, S1, w1, PostS.le p l1⟩
  | ret d r1 S1 => rw [q] at p; exact p
  | brk r1 S1 => rw [q] at p; exact p
  | cont r1 S1 => rw [q] at p; exact p
  | exc c fs r1 S1 => rw [q] at p; exact p
  | bad => rw [q] at p; exact p
theorem ss_one (h1 : SS X M0 H0 W st d1) : SSs X M0 H0 W [st] d1 := pss_one h1
theorem ss_pass : SS X M0 H0 W (.Pass pos) sNext := by
  refine ps_pass.dimp ?_
  rintro D s H ⟨M, r, S, w, p⟩
  exact p M s H w Le.refl
theorem ss_brk : SS X M0 H0 W (.Break pos) sBrk := by
  refine ps_break.dimp ?_
  rintro D s H ⟨M, r, S, w, p⟩
  exact p M s H w Le.refl
theorem ss_cnt : SS X M0 H0 W (.Continue pos) sCnt := by
  refine ps_continue.dimp ?_
  rintro D s H ⟨M, r, S, w, p⟩
  exact p M s H w Le.refl
theorem ss_bad : SS X M0 H0 W st sBad := by
  refine ps_never.dimp ?_
  rintro D s H ⟨M, r, S, w, p⟩
  exact p.elim
theorem ss_doc {x j pos pos'} : SS X M0 H0 W (.Expr (.Constant (.str x) j pos) pos') sNext := by
  refine ps_doc.dimp ?_
  rintro D s H ⟨M, r, S, w, p⟩
  exact p M s H w Le.refl
theorem ss_set {i : Nat} {x : Str} {pos' : Pos} (hN : X.N.Nodup) (hi : X.N[i]? = some x) (hx : Loc X.env.scope x) (he : SE X W e da) (hf : X.fn x = true ∨ X.env.scope.names.lookup x = some .local) (hs : swapsWith e (some (.Name x pos')) pos.line X.env = pure false := by rfl) :
    SS X M0 H0 W (.Assign [.Name x pos'] e pos) (sSet i da) := (ps_set hN hi hx he hs hf).dimp fun _ _ _ => set_t
theorem ss_own {i : Nat} {x : Str} {pos' : Pos} (hN : X.N.Nodup) (hi : X.N[i]? = some x) (hx : Loc X.env.scope x) (he : SN X W e ds) (hf : X.fn x = true ∨ X.env.scope.names.lookup x = some .local) (hs : swapsWith e (some (.Name x pos')) pos.line X.env = pure false := by rfl) :
    SS X M0 H0 W (.Assign [.Name x pos'] e pos) (sSetOwn i ds) := (ps_set hN hi hx he hs hf).dimp fun _ _ _ => own_t
/-- name = [.. for ..] on one line -/
theorem ss_lcO {i : Nat} {tl : TE} (h : PS X st (tAsg tl (gName i))) (k : ∀ s H Q, tN (gx X) W ds s H Q → tl s H Q) : SS X M0 H0 W st (sSetOwn i ds) := h.dimp fun _ _ _ q => k _ _ _ (own_t q)
theorem ss_lcF {i : Nat} {tl : TE} (h : PS X st (tAsg tl (gName i))) (k : ∀ s H Q, tN (gx X) W ds s H Q → tl s H Q) : SS X M0 H0 W st (sSet i (eFrz ds)) := h.dimp fun _ _ _ q => k _ _ _ (frz_t (set_t q))
theorem ss_lcN {i : Nat} {tl : TE} (h : PS X st (tAsg tl (gName i))) (k : ∀ s H Q, tN (gx X) W ds s H Q → tl s H Q) : SS X M0 H0 W st (sSet i (eNew ds)) := h.dimp fun _ _ _ q => k _ _ _ (new_t (set_t q))
/-- as a value -/
theorem sn_lc {tl : TE} (h : PE X e tl) (k : ∀ s H Q, tN (gx X) W ds s H Q → tl s H Q) : SN X W e ds := h.dimp k
theorem ss_asg {tg : Expr} {is : List Nat} {g : TG} {d : DG} (he : SE X W e da) (hg : PG X tg g) (k : GOk (gx X) is g d) (hs : swapsWithSole [tg] e pos.line X.env = pure false := by rfl) (hw : swappedStores [tg] e X.env = pure none := by rfl)
    (h1 : (assignEach [tg] X.env).map (·.2) = [assign tg X.env] := by rfl) : SS X M0 H0 W (.Assign [tg] e pos) (sAsg da d) := by
  refine (ps_asg he hg hs hw h1).dimp ?_
  rintro D s H ⟨M, r, S, w, p⟩
  refine ⟨M, r, S, w.env, w.heap, (PostS.toS (R := RD (gx X)) w p).imp fun y H1 h => ?_⟩
  obtain ⟨M1, v, S1, w1, e1, rv, p1⟩ := h
  cases q : d v r S1 with
  | none => rw [q] at p1; exact p1.elim
  | some r1 =>
    rw [q] at p1
    exact k M1 H1 r r1 s S1 v y D.nx w1.env.len w1.heap rv q fun s2 u => p1 M1 s2 H1 (w1.upd u) Le.refl
/-- a, b = x, y -/
theorem ss_par {i j : Nat} (h : PS X st (tPar i j (tCons (tE (gx X) W da) (tCons (tE (gx X) W db) tNil)))) (hij : i ≠ j) : SS X M0 H0 W st (sPar i j da db) := by
  refine h.dimp ?_
  rintro D s H ⟨M, r, S, w, p⟩
  refine ⟨M, r, S, w.env, w.heap, (PostS.toS (R := RD (gx X)) w p).imp fun y H1 h => ?_⟩
  obtain ⟨M1, v, S1, w1, e1, rv, p1⟩ := h
  refine ⟨M1, r, S1, w1.env, w1.heap, (PostS.toS (R := RD (gx X)) w1 p1).imp fun z H2 h => ?_⟩
  obtain ⟨M2, u, S2, w2, e2, ru, p2⟩ := h
  split at p2
  · rename_i hi
    refine ⟨y, z, rfl, p2 M2 _ H2 ?_ Le.refl⟩
    have w3 := w2.upd (Upd.set w2.env.len hi.1 (rv.mono e2))
    exact w3.upd (Upd.set w3.env.len (by rw [List.length_set]; exact hi.2) ru)
  · exact p2.elim
theorem ss_drop (he : SE X W e da) (hs : swapsWith e none pos.line X.env = pure false := by rfl) : SS X M0 H0 W (.Expr e pos) (sDrop da) := by
  refine (ps_expr he hs).dimp ?_
  rintro D s H ⟨M, r, S, w, p⟩
  refine ⟨M, r, S, w.env, w.heap, (PostS.toS (R := RD (gx X)) w p).imp fun y H1 h => ?_⟩
  obtain ⟨M1, v, S1, w1, e1, rv, p1⟩ := h
  exact p1 M1 s H1 w1 Le.refl
theorem ss_ret (he : SE X W e da) : SS X M0 H0 W (.Return (some e) pos) (sRet da) := by
  refine (ps_ret he).dimp ?_
  rintro D s H ⟨M, r, S, w, p⟩
  refine ⟨M, r, S, w.env, w.heap, (PostS.toS (R := RD (gx X)) w p).imp fun y H1 h => ?_⟩
  obtain ⟨M1, v, S1, w1, e1, rv, p1⟩ := h
  exact p1 M1 y s H1 w1 Le.refl rv
theorem ss_retN : SS X M0 H0 W (.Return none pos) sRetN := by
  refine ps_retN.dimp ?_
  rintro D s H ⟨M, r, S, w, p⟩
  exact p M .non s H w Le.refl rfl
/-- a list of its own changes no more -/
theorem Wst.frz {G : Gx} {M : Mp} {r : Rho} {S : Store} {s : L2.St} {H : Hp} {i : Nat} {xs : List D} (w : Wst G M0 H0 M r S s H) (nl : noLam r = true) (q : r[i]? = some (.own xs)) : ∃ (M2 : Mp) (p : Addr), s[i]? = some (some (.ref p)) ∧ Le M M2 ∧ RelD G M2 (.lst xs) (.ref p) ∧
    (∀ z : Sl, (z = .un ∨ z = .val (.lst xs)) → Wst G M0 H0 M2 (r.set i z) S s H) := by
  obtain ⟨v, e1, p, vs, e2, e3, e4, e5, e6⟩ := w.env.sl i _ q
  subst e2
  have hi : i < r.length := (List.getElem?_eq_some_iff.mp q).1
  have h0 : H0 p = none := w.own i xs p q e1
  obtain ⟨M2, x1, x2, x3, le, hloc, hlst⟩ := frz_new (H := H0) (M := M0) w.ext w.heap e3 e4 e5 e6 h0
  refine ⟨M2, p, e1, le, x3, fun z hz => ?_⟩
  have back : ∀ (j : Nat) (ys : List D), (r.set i z)[j]? = some (Sl.own ys) → j ≠ i ∧ r[j]? = some (Sl.own ys) := fun j ys k => by
    by_cases e : j = i
    · subst e
      rw [List.getElem?_set_self hi] at k
      rcases hz with z1 | z1 <;> (rw [z1] at k; cases k)
    · rw [List.getElem?_set_ne (Ne.symm e)] at k
      exact ⟨e, k⟩
  refine ⟨⟨by rw [List.length_set]; exact w.env.len, fun j x k => ?_, fun j k xs' ys' a q1 q2 q3 q4 => ?_⟩, x2, x1, fun j ys a q1 q2 => w.own j ys a (back j ys q1).2 q2⟩
  · by_cases e : j = i
    · subst e
      rw [List.getElem?_set_self hi] at k
      rcases hz with z1 | z1
      · rw [z1] at k; cases k
        exact ⟨_, e1, trivial⟩
      · rw [z1] at k; cases k
        exact ⟨_, e1, _, rfl, x3⟩
    · rw [List.getElem?_set_ne (Ne.symm e)] at k
      obtain ⟨v, k1, k2⟩ := w.env.sl j x k
      refine ⟨v, k1, ?_⟩
      cases x with
      | un => trivial
      | val d =>
        obtain ⟨u, y1, y2⟩ := k2
        exact ⟨u, y1, RelD.le le y2⟩
      | own ys =>
        obtain ⟨a, ws, y1, y2, y3, y4, y5⟩ := k2
        subst y1
        have ne : a ≠ p := fun z1 => by
          subst z1
          exact e (w.env.apt j i ys xs a k q k1 e1)
        exact ⟨a, ws, rfl, y2, RelDs.le le y3, by rw [hloc]; exact y4, by rw [hlst a ne]; exact y5⟩
      | ownd _ _ => exact k2
      | exc _ _ =>
        obtain ⟨a, oe, C, dx, y1, y2, y3, y4, y5, y6⟩ := k2
        refine ⟨a, oe, C, dx, y1, y2, y3, y4, y5, ?_⟩
        rcases y6 with z | ⟨d, vfs, z1, z2, z3, z4⟩
        · exact .inl z
        · exact .inr ⟨d, vfs, z1, z2, RelFs.le le z3, by rw [hloc]; exact z4⟩
      | lam =>
        unfold noLam at nl
        have z := List.all_eq_true.mp nl _ (List.mem_of_getElem? k)
        cases z
  · exact w.env.apt j k xs' ys' a (back j _ q1).2 (back k _ q2).2 q3 q4
theorem ss_retOwn {i : Nat} {x : Str} {p2 : Pos} (hN : X.N[i]? = some x) (hv : Vis X.env.scope x) (hd : (x == ("__debug__" : Str)) = false := by decide) (hcd : (x == ("__classdict__" : Str)) = false := by decide) : SS X M0 H0 W (.Return (some (.Name x p2)) pos) (sRetOwn i) := by
  refine (ps_ret (pe_var (i := i) hN hv hd hcd)).dimp ?_
  rintro D s H ⟨M, r, S, w, p⟩
  unfold sRetOwn at p
  cases q : r[i]? with
  | none => rw [q] at p; exact p.elim
  | some z =>
    rw [q] at p
    cases z with
    | own xs =>
      dsimp only at p
      split at p
      case isFalse => exact p.elim
      rename_i nl
      obtain ⟨M2, a, h1, le, rd, k⟩ := w.frz nl q
      exact ⟨.ref a, h1, p M2 _ s H (k _ (.inl rfl)) le rd⟩
    | un => exact p.elim
    | val _ => exact p.elim
    | ownd _ _ => exact p.elim
    | exc _ _ => exact p.elim
    | lam => exact p.elim
/-- a list that changes no more, ahead of a statement -/
theorem ss_frz {i : Nat} (h : SS X M0 H0 W st d1) : SS X M0 H0 W st (sSeq (sFrz i) d1) := by
  refine h.dimp ?_
  rintro D s H ⟨M, r, S, w, p⟩
  unfold sSeq sFrz at p
  cases q : r[i]? with
  | none => rw [q] at p; exact p.elim
  | some z =>
    rw [q] at p
    cases z with
    | own xs =>
      dsimp only at p
      split at p
      case isFalse => exact p.elim
      rename_i nl
      obtain ⟨M2, a, h1, le, rd, k⟩ := w.frz nl q
      exact ⟨M2, _, S, k _ (.inr rfl), PostS.le p le⟩
    | un => exact p.elim
    | val _ => exact p.elim
    | ownd _ _ => exact p.elim
    | exc _ _ => exact p.elim
    | lam => exact p.elim
theorem ss_if {c : Expr} {sa sb : List Stmt} (hc : ST X W c dt) (ha : SSs X M0 H0 W sa d1) (hb : SSs X M0 H0 W sb d2) : SS X M0 H0 W (.If c sa sb pos) (sIf dt d1 d2) := by
  refine (ps_if hc ha hb).dimp ?_
  rintro D s H ⟨M, r, S, w, p⟩
  refine ⟨M, r, S, w.env, w.heap, (PostS.toS (R := RB) w p).imp fun y H1 h => ?_⟩
  obtain ⟨M1, v, S1, w1, e1, rv, p1⟩ := h
  obtain rfl : v = y := rv
  cases v with
  | true => exact ⟨M1, r, S1, w1, p1⟩
  | false => exact ⟨M1, r, S1, w1, p1⟩
/-! ### loops -/
theorem ss_for {tg iter : Expr} {body : List Stmt} {di : DI} {g : TG} {d : DG} {is : List Nat} {db' : DS} (hp : PassesOwn (model X.prog X.w) X.A X.env X.xe) (hc : X.calm = true) (hi : SI X W tg iter di) (hg : PG X tg g) (k : GOk (gx X) is g d) (hb : SSs X M0 H0 W body db')
    (hs : ∀ x, foldedSetIterable iter X.env x = pure x := by intro _; rfl) : SS X M0 H0 W (.For tg iter body [] pos) (sFor di d db') := by
  refine (ps_for hp hc hi hg hb hs).dimp ?_
  rintro D s H ⟨M, r, S, w, p⟩
  refine ⟨M, r, S, w.env, w.heap, (PostS.toS (R := RW (gx X)) w p).imp fun J H1 h => ?_⟩
  obtain ⟨M1, ⟨xs, ok⟩, S1, w1, e1, ⟨wk, hz⟩, p1⟩ := h
  dsimp only at hz p1
  refine ⟨fun i m s2 H2 => m = xs.length - i ∧ i ≤ xs.length ∧ ∃ M2 r2 S2, Wst (gx X) M0 H0 M2 r2 S2 s2 H2 ∧ Le M1 M2 ∧ PostS (gx X) M0 H0 W M2 (forGo ok d db' (xs.drop i) r2 S2) D, ⟨xs.length, by simp, Nat.zero_le _, M1, r, S1, w1, Le.refl, by rw [List.drop_zero]; exact p1⟩, ?_⟩
  rintro i m s2 H2 ⟨rfl, hi, M2, r2, S2, w2, l2, pp⟩
  have hok : ok S2 := by
    cases q : xs.drop i with
    | nil =>
      rw [q] at pp
      unfold forGo at pp
      split at pp
      · assumption
      · exact pp.elim
    | cons _ _ =>
      rw [q] at pp
      unfold forGo at pp
      split at pp
      · assumption
      · exact pp.elim
  obtain ⟨wgo, wstop⟩ := wk i M2 S2 H2 l2 w2.heap hok
  by_cases hlt : i < xs.length
  · refine .inr ⟨(wgo hlt).1, ?_⟩
    refine ⟨fun s' H' => i + 1 ≤ xs.length ∧ ∃ M2 r2 S2, Wst (gx X) M0 H0 M2 r2 S2 s' H' ∧ Le M1 M2 ∧ PostS (gx X) M0 H0 W M2 (forGo ok d db' (xs.drop (i + 1)) r2 S2) D, fun s' H' h => ⟨xs.length - (i + 1), by omega, rfl, h⟩, fun x H3 y => ?_⟩
    obtain ⟨M3, dx, e3, rh3, hdx, rd3⟩ := (wgo hlt).2 x H3 y
    have hdrop : xs.drop i = dx :: xs.drop (i + 1) := by
      have e : xs[i] = dx := by
        have hdx : xs[i]? = some dx := hdx
        rw [List.getElem?_eq_getElem hlt] at hdx
        exact Option.some.inj hdx
      rw [List.drop_eq_getElem_cons hlt, e]
    rw [hdrop] at pp
    unfold forGo at pp
    rw [if_pos hok] at pp
    cases hgd : d dx r2 S2 with
    | none => rw [hgd] at pp; exact pp.elim
    | some r3 =>
      rw [hgd] at pp
      dsimp only at pp
      have w3 := w2.mono e3 rh3
      refine k M3 H3 r2 r3 s2 S2 dx x _ w3.env.len rh3 rd3 hgd fun s4 u => ?_
      refine ⟨M3, r3, S2, w3.upd u, ?_⟩
      have l3 := l2.trans e3.le
      cases q : db' r3 S2 with
      | next r4 S4 =>
        rw [q] at pp
        exact fun M4 s5 H5 w5 l5 => ⟨hlt, M4, r4, S4, w5, l3.trans l5, PostS.le pp (e3.le.trans l5)⟩
      | cont r4 S4 =>
        rw [q] at pp
        exact fun M4 s5 H5 w5 l5 => ⟨hlt, M4, r4, S4, w5, l3.trans l5, PostS.le pp (e3.le.trans l5)⟩
      | brk r4 S4 =>
        rw [q] at pp
        exact fun M4 s5 H5 w5 l5 => pp M4 s5 H5 w5 (e3.le.trans l5)
      | ret v r4 S4 =>
        rw [q] at pp
        exact fun M4 z s5 H5 w5 l5 rz => pp M4 z s5 H5 w5 (e3.le.trans l5) rz
      | exc c fs r4 S4 =>
        rw [q] at pp
        exact fun M4 s5 H5 C dx w5 l5 => pp M4 s5 H5 C dx w5 (e3.le.trans l5)
      | bad => rw [q] at pp; exact pp.elim
  · have e : i = xs.length := by omega
    subst e
    refine .inl ⟨wstop (Nat.le_refl _), ?_⟩
    simp only [List.drop_length, forGo, if_pos hok] at pp
    exact pp M2 s2 H2 w2 Le.refl
theorem ss_while {c : Expr} {body : List Stmt} {n : Nat} {db' : DS} (hp : PassesOwn (model X.prog X.w) X.A X.env X.xe) (hc : ST X W c dt) (hb : SSs X M0 H0 W body db') : SS X M0 H0 W (.While c body [] pos) (sWhile n dt db') := by
  refine (ps_while hp hc hb).dimp ?_
  rintro D s H ⟨M, r, S, w, p⟩
  refine ⟨fun m s2 H2 => ∃ M2 r2 S2, Wst (gx X) M0 H0 M2 r2 S2 s2 H2 ∧ Le M M2 ∧ PostS (gx X) M0 H0 W M2 (whileGo dt db' m r2 S2) D, ⟨n, M, r, S, w, Le.refl, p⟩, ?_⟩
  rintro m s2 H2 ⟨M2, r2, S2, w2, l2, pp⟩
  cases m with
  | zero => exact pp.elim
  | succ m =>
    unfold whileGo at pp
    refine ⟨M2, r2, S2, w2.env, w2.heap, (PostS.toS (R := RB) w2 pp).imp fun y H3 h => ?_⟩
    obtain ⟨M3, v, S3, w3, e3, rv, p3⟩ := h
    obtain rfl : v = y := rv
    cases v with
    | false => exact p3 M3 s2 H3 w3 Le.refl
    | true =>
      simp only [if_true] at p3 ⊢
      have l3 := l2.trans e3.le
      refine ⟨fun s' H' => ∃ M2 r2 S2, Wst (gx X) M0 H0 M2 r2 S2 s' H' ∧ Le M M2 ∧ PostS (gx X) M0 H0 W M2 (whileGo dt db' m r2 S2) D, fun s' H' h => ⟨m, Nat.lt_succ_self m, h⟩, M3, r2, S3, w3, ?_⟩
      cases q : db' r2 S3 with
      | next r4 S4 =>
        rw [q] at p3
        exact fun M4 s5 H5 w5 l5 => ⟨M4, r4, S4, w5, l3.trans l5, PostS.le p3 l5⟩
      | cont r4 S4 =>
        rw [q] at p3
        exact fun M4 s5 H5 w5 l5 => ⟨M4, r4, S4, w5, l3.trans l5, PostS.le p3 l5⟩
      | brk r4 S4 =>
        rw [q] at p3
        exact fun M4 s5 H5 w5 l5 => p3 M4 s5 H5 w5 l5
      | ret v r4 S4 =>
        rw [q] at p3
        exact fun M4 z s5 H5 w5 l5 rz => p3 M4 z s5 H5 w5 l5 rz
      | exc c fs r4 S4 =>
        rw [q] at p3
        exact fun M4 s5 H5 C dx w5 l5 => p3 M4 s5 H5 C dx w5 l5
      | bad => rw [q] at p3; exact p3.elim
end
end Dn

end
section
set_option Elab.async false
set_option linter.all false
set_option maxRecDepth 100000
set_option maxHeartbeats 4000000
/-! The rules: changing objects; defs. -/
namespace Dn
open PySem PySem.Spec PyProof.Rows L2
variable [Tb]
theorem ObjR.le {G : Gx} {M M' : Mp} (e : Le M M') {o : SO} {x : Option HO} (h : ObjR G M o x) : ObjR G M' o x := by
  cases o with
  | lst ds => obtain ⟨vs, h1, h2⟩ := h; exact ⟨vs, h1, RelDs.le e h2⟩
  | ins c fs => obtain ⟨C, dx, vfs, h1, h2, h3⟩ := h; exact ⟨C, dx, vfs, h1, h2, RelFs.le e h3⟩
  | dct _ _ => exact DctR.map (fun _ _ q => RelD.le e q) h
theorem ObjR.some {G : Gx} {M : Mp} {o : SO} {x : Option HO} (h : ObjR G M o x) : ∃ u, x = .some u ∧ (∀ vs, u ≠ .tup vs) ∧ (∀ ps, u ≠ .tbl ps) ∧ ∀ φ, u ≠ .ext φ := by
  cases o with
  | lst ds => obtain ⟨vs, h1, h2⟩ := h; exact ⟨_, h1, (fun _ z => by cases z), (fun _ z => by cases z), (fun _ z => by cases z)⟩
  | ins c fs => obtain ⟨C, dx, vfs, h1, h2, h3⟩ := h; exact ⟨_, h1, (fun _ z => by cases z), (fun _ z => by cases z), (fun _ z => by cases z)⟩
  | dct _ _ => rcases h with ⟨_, _, h, _⟩ | ⟨_, _, h, _⟩ <;> exact ⟨_, h, (fun _ z => by cases z), (fun _ z => by cases z), (fun _ z => by cases z)⟩
/-- a numbered object changes -/
theorem RelH.put {G : Gx} {M : Mp} {S : Store} {H : Hp} {l : Nat} {a : Addr} {o o' : SO} {ho : HO} (rh : RelH G M S H) (hl : M.loc l = some a) (hs : S[l]? = some o) (h' : ObjR G M o' (some ho)) : RelH G M (S.set l o') (upd H a ho) ∧ Ext M H M (upd H a ho) := by
  obtain ⟨a', e1, e2⟩ := rh.obj l o hs
  rw [hl] at e1; cases e1
  obtain ⟨u, e3, e4, e5, e6⟩ := e2.some
  have hlt : l < S.length := (List.getElem?_eq_some_iff.mp hs).1
  refine ⟨⟨fun k x q => ?_, fun k b q => by rw [List.length_set]; exact rh.dom k b q, rh.inj, fun b vs q => ?_, fun b vs q => ?_, rh.apt, tabs_set rh.tabs e3 e5 fun _ _ => code_ne e6⟩, fun _ _ h => h, fun _ _ h => h, fun _ _ h => h, fun _ _ h => .inl h, fun _ _ h => .inl h, fun b x q n _ => ?_, fun b x q => ?_⟩
  · by_cases e : k = l
    · subst e
      rw [List.getElem?_set_self hlt] at q
      cases q
      exact ⟨a, hl, by rw [upd_same]; exact h'⟩
    · rw [List.getElem?_set_ne (Ne.symm e)] at q
      obtain ⟨b, x1, x2⟩ := rh.obj k x q
      refine ⟨b, x1, ?_⟩
      rw [upd_ne (fun z => e (rh.inj k l b x1 (by rw [z]; exact hl)))]
      exact x2
  · have := rh.tup b vs q
    rw [upd_ne (fun z => by rw [z, e3] at this; cases this; exact e4 vs rfl)]
    exact this
  · have ne : b ≠ a := fun z => rh.apt b vs l q (by rw [z]; exact hl)
    rcases rh.lst b vs q with z | ⟨y, z⟩
    · exact .inl (by rw [upd_ne ne]; exact z)
    · exact .inr ⟨y, by rw [upd_ne ne]; exact z⟩
  · rw [upd_ne (fun z => n l (by rw [z]; exact hl))]; exact q
  · by_cases e : b = a
    · subst e
      exact ⟨ho, upd_same⟩
    · exact ⟨x, by rw [upd_ne e]; exact q⟩
/-- the list of a number -/
theorem RelH.lstAt {G : Gx} {M : Mp} {S : Store} {H : Hp} {l : Nat} {a : Addr} {xs : List D} (rh : RelH G M S H) (hl : M.loc l = some a) (hs : S[l]? = some (.lst xs)) : ∃ vs, H a = some (.lst vs) ∧ RelDs G M xs vs := by
  obtain ⟨b, e1, vs, e2, e3⟩ := rh.obj l _ hs
  rw [hl] at e1; cases e1
  exact ⟨vs, e2, e3⟩
section
variable {X : Cx} {M0 : Mp} {H0 : Hp} {W : WX} {a b c o k e : Expr} {es : List Expr} {da db dc dk : DE} {ds : DA} {dl : DL} {dt : DT} {d1 d2 : DS} {pos : Pos} {st : Stmt}
/-! ### methods of lists -/
theorem se_appR (h : PE X e (tBM X.K "list" rAppend (tE (gx X) W da) (tCons (tE (gx X) W db) tNil))) : SE X W e (eAppR da db) := by
  refine h.dimp ?_
  rintro s H Q ⟨M, r, S, en, rh, p⟩
  refine ⟨M, r, S, en, rh, (Post.bind (R := RD (gx X)) p).imp fun v H1 h => ?_⟩
  obtain ⟨M1, x, S1, e1, rh1, rd1, p1⟩ := h
  cases x with
  | ref l =>
    obtain ⟨pa, rfl, h1⟩ := rd1
    dsimp only at p1
    split at p1
    · rename_i xs0 q0
      obtain ⟨vs0, z1, z2⟩ := rh1.lstAt h1 q0
      refine ⟨.inl ⟨rfl, vs0, .inl (.inl z1)⟩, M1, r, S1, en.mono e1, rh1, (Post.bind (R := RD (gx X)) p1).imp fun w H2 h => ?_⟩
      obtain ⟨M2, y, S2, e2, rh2, rd2, p2⟩ := h
      have h2 := e2.loc l pa h1
      split at p2
      · rename_i xs q
        obtain ⟨vs, z3, z4⟩ := rh2.lstAt h2 q
        split at p2
        · rename_i hz
          obtain ⟨x1, x2⟩ := rh2.put (o' := .lst (xs ++ [y])) (ho := .lst (vs ++ [w])) h2 q ⟨_, rfl, z4.append (RelDs.nil.cons rd2)⟩
          exact ⟨pa, vs, w, rfl, rfl, z3, by rw [← z4.len]; exact hz, p2 M2 _ _ x2 x1 rfl⟩
        · exact p2.elim
      · exact p2.elim
    · exact p1.elim
  | _ => exact p1.elim
theorem eraseIdx_rel {G : Gx} {M : Mp} : ∀ {ds : List D} {vs : List V} (i : Nat), RelDs G M ds vs → RelDs G M (ds.eraseIdx i) (vs.eraseIdx i)
  | [], _, _, h => by cases (show _ = [] from h); exact RelDs.nil
  | d :: ds, _, 0, h => by
    obtain ⟨v, r, rfl, h1, h2⟩ := h
    exact h2
  | d :: ds, _, i + 1, h => by
    obtain ⟨v, r, rfl, h1, h2⟩ := h
    exact ⟨v, _, rfl, h1, eraseIdx_rel i h2⟩
theorem place_seq {n : Nat} {i : Int} {j : Nat} (h : place n i = some j) (hn : n ≤ sizeLine) : -(2 ^ 63) ≤ i ∧ i < 2 ^ 63 ∧ seqIndex? i n = some j ∧ j < n := by
  rw [place_eq] at h
  obtain ⟨h1, h2, h3, h4⟩ := ixN_seq h
  have := line63
  exact ⟨by omega, by omega, h1, h2⟩
def rPopAtB : V → List V → Hp → VK → Prop := fun x vs H Q => ∃ l xs i k y, x = .ref l ∧ vs = [.int i] ∧ H l = some (.lst xs) ∧ place xs.length i = some k ∧ xs[k]? = some y ∧ Q y (upd H l (.lst (xs.eraseIdx k)))
theorem mt_popAtB : MtR X "list.pop" rPopAtB := by
  intro pins s z H x vs v us Q I rx rv h
  obtain ⟨l, xs, i, k, y, rfl, rfl, hH, hk, hy, q⟩ := h
  obtain ⟨hz, _⟩ := I.lstM hH
  obtain ⟨h1, h2, h3, _⟩ := place_seq hk hz
  exact mt_popAt pins s z H _ _ v us Q I rx rv ⟨l, xs, i, k, y, rfl, rfl, hH, h1, h2, h3, hy, q⟩
theorem se_popR (h : PE X e (tBM X.K "list" rPopAtB (tE (gx X) W da) (tCons (tE (gx X) W db) tNil))) : SE X W e (ePopR da db) := by
  refine h.dimp ?_
  rintro s H Q ⟨M, r, S, en, rh, p⟩
  refine ⟨M, r, S, en, rh, (Post.bind (R := RD (gx X)) p).imp fun v H1 h => ?_⟩
  obtain ⟨M1, x, S1, e1, rh1, rd1, p1⟩ := h
  cases x with
  | ref l =>
    obtain ⟨pa, rfl, h1⟩ := rd1
    dsimp only at p1
    split at p1
    · rename_i xs0 q0
      obtain ⟨vs0, z1, z2⟩ := rh1.lstAt h1 q0
      refine ⟨.inl ⟨rfl, vs0, .inl (.inl z1)⟩, M1, r, S1, en.mono e1, rh1, (Post.bind (R := RD (gx X)) p1).imp fun w H2 h => ?_⟩
      obtain ⟨M2, y, S2, e2, rh2, rd2, p2⟩ := h
      have h2 := e2.loc l pa h1
      split at p2
      · rename_i j xs q
        cases (show _ = _ from rd2)
        obtain ⟨vs, z3, z4⟩ := rh2.lstAt h2 q
        split at p2
        · rename_i m hm
          split at p2
          · rename_i y hy
            obtain ⟨v, y1, y2⟩ := z4.get hy
            obtain ⟨x1, x2⟩ := rh2.put (o' := .lst (xs.eraseIdx m)) (ho := .lst (vs.eraseIdx m)) h2 q ⟨_, rfl, eraseIdx_rel m z4⟩
            exact ⟨pa, vs, j, m, v, rfl, rfl, z3, by rw [← z4.len]; exact hm, y1, p2 M2 _ _ x2 x1 y2⟩
          · exact p2.elim
        · exact p2.elim
      · exact p2.elim
    · exact p1.elim
  | _ => exact p1.elim
theorem dropLast_rel {G : Gx} {M : Mp} {ds : List D} {vs : List V} (h : RelDs G M ds vs) : RelDs G M ds.dropLast vs.dropLast := by
  rw [List.dropLast_eq_take, List.dropLast_eq_take, h.len]
  exact h.take _
theorem se_popR0 (h : PE X e (tBM0 X.K "list" rPop (tE (gx X) W da))) : SE X W e (ePopR0 da) := by
  refine h.dimp ?_
  rintro s H Q ⟨M, r, S, en, rh, p⟩
  refine ⟨M, r, S, en, rh, (Post.bind (R := RD (gx X)) p).imp fun v H1 h => ?_⟩
  obtain ⟨M1, x, S1, e1, rh1, rd1, p1⟩ := h
  cases x with
  | ref l =>
    obtain ⟨pa, rfl, h1⟩ := rd1
    dsimp only at p1
    split at p1
    · rename_i xs q
      obtain ⟨vs, z3, z4⟩ := rh1.lstAt h1 q
      split at p1
      · rename_i y hy
        obtain ⟨v, y1, y2⟩ := z4.get hy
        obtain ⟨x1, x2⟩ := rh1.put (o' := .lst xs.dropLast) (ho := .lst vs.dropLast) h1 q ⟨_, rfl, dropLast_rel z4⟩
        exact ⟨.inl ⟨rfl, vs, .inl (.inl z3)⟩, pa, vs, v, rfl, rfl, z3, by rw [← z4.len]; exact y1, p1 M1 _ _ x2 x1 y2⟩
      · exact p1.elim
    · exact p1.elim
  | _ => exact p1.elim
/-! ### new lists from others -/
theorem sn_lstOf (hc : PE X e (tCB (fun xs H Q => ∃ p ys, xs = [.ref p] ∧ (SqL X.K H p ys ∨ SqT X.K H p ys) ∧ ∀ l, H l = none → Q (.ref l) (upd H l (.lst ys))) (tCons (tL (gx X) W dl) tNil))) : SN X W e (nLstOf dl) := by
  refine hc.dimp ?_
  rintro s H Q ⟨M, r, S, en, rh, p⟩
  refine ⟨M, r, S, en, rh, (Post.bind (R := RSrc (gx X) s) p).imp fun v H1 h => ?_⟩
  obtain ⟨M1, c, S1, e1, rh1, rd1, p1⟩ := h
  cases q : c.get r S1 with
  | none => rw [q] at p1; exact p1.elim
  | some xs =>
    rw [q] at p1
    obtain ⟨pa, vs, rfl, h1, h2⟩ := src_ok rh1 (en.mono e1) rd1 q
    refine ⟨pa, vs, rfl, sq_or h1, fun l hl => ?_⟩
    refine p1 M1 _ _ (Ext.other hl) (rh1.other hl) ⟨l, vs, rfl, upd_same, h2, rh1.noloc hl, rh1.nolst hl, ?_⟩
    cases z : H l with
    | none => rfl
    | some o =>
      obtain ⟨o', z'⟩ := e1.there l o z
      rw [hl] at z'; cases z'
theorem sn_sorted (hc : PE X e (tCB (rSortD (gx X)) (tCons (tL (gx X) W dl) tNil))) : SN X W e (nSorted dl) := by
  refine hc.dimp ?_
  rintro s H Q ⟨M, r, S, en, rh, p⟩
  refine ⟨M, r, S, en, rh, (Post.bind (R := RSrc (gx X) s) p).imp fun v H1 h => ?_⟩
  obtain ⟨M1, c, S1, e1, rh1, rd1, p1⟩ := h
  cases q : c.get r S1 with
  | none => rw [q] at p1; exact p1.elim
  | some xs =>
    rw [q] at p1
    obtain ⟨pa, vs, rfl, h1, h2⟩ := src_ok rh1 (en.mono e1) rd1 q
    simp only [Rs.ofO_some, Rs.bind_ok] at p1
    split at p1
    · rename_i hc
      simp only [Bool.and_eq_true, Bool.not_eq_true'] at hc
      rw [hc.1] at h1
      refine ⟨M1, S1, pa, vs, xs, rfl, rh1, h1, h2, hc.2, fun l ws hl hw => ?_⟩
      refine p1 M1 _ _ (Ext.other hl) (rh1.other hl) ⟨l, ws, rfl, upd_same, hw, rh1.noloc hl, rh1.nolst hl, ?_⟩
      cases z : H l with
      | none => rfl
      | some o =>
        obtain ⟨o', z'⟩ := e1.there l o z
        rw [hl] at z'; cases z'
    · exact p1.elim
/-! ### stores -/
theorem ss_putR (h : PS X st (tAsg (tE (gx X) W da) (gSub (tE (gx X) W db) (tE (gx X) W dk) rSetL))) : SS X M0 H0 W st (sPutR db dk da) := by
  refine h.dimp ?_
  rintro D s H ⟨M, r, S, w, p⟩
  refine ⟨M, r, S, w.env, w.heap, (PostS.toS (R := RD (gx X)) w p).imp fun y H1 h => ?_⟩
  obtain ⟨M1, v, S1, w1, e1, rv, p1⟩ := h
  refine ⟨M1, r, S1, w1.env, w1.heap, (PostS.toS (R := RD (gx X)) w1 p1).imp fun z H2 h => ?_⟩
  obtain ⟨M2, u, S2, w2, e2, ru, p2⟩ := h
  refine ⟨M2, r, S2, w2.env, w2.heap, (PostS.toS (R := RD (gx X)) w2 p2).imp fun z2 H3 h => ?_⟩
  obtain ⟨M3, n, S3, w3, e3, rn, p3⟩ := h
  split at p3
  · rename_i l j
    obtain ⟨pa, rfl, h1⟩ := ru
    cases (show _ = _ from rn)
    have h3 := e3.loc l pa h1
    split at p3
    · rename_i xs q
      obtain ⟨vs, z3, z4⟩ := w3.heap.lstAt h3 q
      split at p3
      · rename_i m hm
        obtain ⟨x1, x2⟩ := w3.heap.put (o' := .lst (xs.set m v)) (ho := .lst (vs.set m y)) h3 q ⟨_, rfl, z4.set m ((rv.mono e2).mono e3)⟩
        exact ⟨pa, vs, j, m, rfl, rfl, z3, by rw [← z4.len]; exact hm, p3 M3 s _ (w3.mono x2 x1) Le.refl⟩
      · exact p3.elim
    · exact p3.elim
  · exact p3.elim
theorem ss_fld {f : Str} {cs : List Str} (hf : ∀ c ∈ cs, FldOk (gx X) c f) (h : PS X st (sFld X.K (tE (gx X) W db) (tE (gx X) W da) f)) : SS X M0 H0 W st (sFldD cs f db da) := by
  refine h.dimp ?_
  rintro D s H ⟨M, r, S, w, p⟩
  refine ⟨M, r, S, w.env, w.heap, (PostS.toS (R := RD (gx X)) w p).imp fun y H1 h => ?_⟩
  obtain ⟨M1, v, S1, w1, e1, rv, p1⟩ := h
  refine ⟨M1, r, S1, w1.env, w1.heap, (PostS.toS (R := RD (gx X)) w1 p1).imp fun z H2 h => ?_⟩
  obtain ⟨M2, u, S2, w2, e2, ru, p2⟩ := h
  cases u with
  | ref l =>
    obtain ⟨pa, rfl, h1⟩ := ru
    dsimp only at p2
    split at p2
    · rename_i c fs q
      split at p2
      · rename_i hc
        obtain ⟨a2, x1, C, dx, vfs, x2, x3, x4⟩ := w2.heap.obj l _ q
        rw [h1] at x1; cases x1
        obtain ⟨k1, k2⟩ := hf c hc.1 C x3
        obtain ⟨y1, y2⟩ := w2.heap.put (o' := .ins c (putFD f v fs)) (ho := .ins C dx (putF f y vfs)) h1 q ⟨C, dx, _, rfl, x3, x4.put (rv.mono e2)⟩
        exact ⟨pa, C, dx, vfs, rfl, x2, k1, k2, by rw [← x4.len]; exact hc.2, p2 M2 s _ (w2.mono y2 y1) Le.refl⟩
      · exact p2.elim
    · exact p2.elim
  | _ => exact p2.elim
/-- name += e, name -= e: of whole numbers -/
theorem ss_aug {i : Nat} {f : Int → Int → Int} (h : PS X st (tAug i (tE (gx X) W da) (ipI f))) : SS X M0 H0 W st (sAugI i f da) := by
  refine h.dimp ?_
  rintro D s H ⟨M, r, S, w, p⟩
  unfold sAugI at p
  cases q : r[i]? with
  | none => rw [q] at p; exact p.elim
  | some z =>
    rw [q] at p
    have hi : i < r.length := (List.getElem?_eq_some_iff.mp q).1
    cases z with
    | val d =>
      cases d with
      | int x =>
        obtain ⟨v, k1, u, k2, k3⟩ := w.env.sl i _ q
        subst k2
        cases (show _ = _ from k3)
        refine ⟨_, k1, M, r, S, w.env, w.heap, (PostS.toS (R := RD (gx X)) w p).imp fun y H1 h => ?_⟩
        obtain ⟨M1, v, S1, w1, e1, rv, p1⟩ := h
        cases v with
        | int j =>
          cases (show _ = _ from rv)
          exact ⟨x, j, rfl, rfl, p1 M1 _ H1 (w1.upd (Upd.set w1.env.len hi (d := .int (f x j)) rfl)) Le.refl⟩
        | _ => exact p1.elim
      | _ => exact p.elim
    | un => exact p.elim
    | own _ => exact p.elim
    | ownd _ _ => exact p.elim
    | exc _ _ => exact p.elim
    | lam => exact p.elim
end
end Dn

end
section
set_option Elab.async false
set_option linter.all false
set_option maxRecDepth 100000
set_option maxHeartbeats 4000000
/-! The rules: new instances, defs, the law's entry. -/
namespace Dn
open PySem PySem.Spec PyProof.Rows L2
variable [Tb]
/-- a new object that no one knew gets the next number -/
theorem loc_any {G : Gx} {M : Mp} {S : Store} {H : Hp} {p : Addr} {o : SO} {ho : HO} (rh : RelH G M S H) (hp : H p = none) (h : ObjR G M o (some ho)) :
    ∃ M', Ext M H M' (upd H p ho) ∧ RelH G M' (S ++ [o]) (upd H p ho) ∧ RelD G M' (.ref S.length) (.ref p) := by
  have nl := rh.nolst hp
  have no := rh.noloc hp
  have ne : ∀ b o, H b = some o → b ≠ p := fun b o h q => by rw [q, hp] at h; cases h
  have nS : ∀ l x, M.loc l = some x → l ≠ S.length := fun l x h q => by have := rh.dom l x h; omega
  have ex : Ext M H ⟨fun l => if l = S.length then some p else M.loc l, M.tup, M.lst⟩ (upd H p ho) := by
    refine ⟨fun l x h => ?_, fun _ _ h => h, fun _ _ h => h, fun l x h => ?_, fun _ _ h => .inl h, fun a o h _ _ => ?_, fun a o h => ⟨o, ?_⟩⟩
    · show (if l = S.length then some p else M.loc l) = some x
      rw [if_neg (nS l x h)]; exact h
    · have h' : (if l = S.length then some p else M.loc l) = some x := h
      by_cases q : l = S.length
      · rw [if_pos q] at h'; cases h'
        exact .inr hp
      · rw [if_neg q] at h'; exact .inl h'
    · rw [upd_ne (ne a o h)]; exact h
    · rw [upd_ne (ne a o h)]; exact h
  refine ⟨_, ex, ?_, p, rfl, by show (if S.length = S.length then some p else M.loc S.length) = some p; rw [if_pos rfl]⟩
  refine ⟨fun l x q => ?_, fun l x h => ?_, fun l k x h1 h2 => ?_, fun a x h => ?_, fun a x h => ?_, fun a x l h q => ?_, tabs_fresh rh.tabs hp⟩
  · by_cases hl : l = S.length
    · subst hl
      rw [List.getElem?_append_right (Nat.le_refl _)] at q
      simp at q
      subst q
      exact ⟨p, by show (if S.length = S.length then some p else M.loc S.length) = some p; rw [if_pos rfl], by rw [upd_same]; exact h.mono ex⟩
    · have hlt : l < S.length := by
        have := (List.getElem?_eq_some_iff.mp q).1
        simp at this; omega
      rw [List.getElem?_append_left hlt] at q
      obtain ⟨a, e1, e2⟩ := rh.obj l x q
      have hne : a ≠ p := fun z => no l (by rw [← z]; exact e1)
      refine ⟨a, by show (if l = S.length then some p else M.loc l) = some a; rw [if_neg hl]; exact e1, ?_⟩
      rw [upd_ne hne]
      exact e2.mono ex
  · have h' : (if l = S.length then some p else M.loc l) = some x := h
    by_cases q : l = S.length
    · rw [q]; simp
    · rw [if_neg q] at h'
      have := rh.dom l x h'
      simp; omega
  · have h1' : (if l = S.length then some p else M.loc l) = some x := h1
    have h2' : (if k = S.length then some p else M.loc k) = some x := h2
    by_cases q1 : l = S.length <;> by_cases q2 : k = S.length
    · rw [q1, q2]
    · rw [if_pos q1] at h1'; rw [if_neg q2] at h2'; cases h1'; exact absurd h2' (no k)
    · rw [if_neg q1] at h1'; rw [if_pos q2] at h2'; cases h2'; exact absurd h1' (no l)
    · rw [if_neg q1] at h1'; rw [if_neg q2] at h2'; exact rh.inj l k x h1' h2'
  · have := rh.tup a x h
    rw [upd_ne (ne a _ this)]; exact this
  · have q : a ≠ p := fun q => by rw [q, nl] at h; cases h
    rcases rh.lst a x h with z | ⟨o, z⟩
    · exact .inl (by rw [upd_ne q]; exact z)
    · exact .inr ⟨o, by rw [upd_ne q]; exact z⟩
  · have h' : (if l = S.length then some p else M.loc l) = some a := q
    by_cases z : l = S.length
    · rw [if_pos z] at h'; cases h'
      rw [nl] at h; cases h
    · rw [if_neg z] at h'
      exact rh.apt a x l h h'
section
variable {X : Cx} {W : WX} {e : Expr} {ds : DA}
theorem make_go {c : Str} {C : Addr} {g : Fn} {M1 : Mp} {S1 : Store} {H1 : Hp} {xs : List D} {vs : List V} {s : L2.St} {Q : VK} (hC : X.mg c = some (.ref C)) (rh1 : RelH (gx X) M1 S1 H1) (rd1 : RelDs (gx X) M1 xs vs)
    (p1 : Post (gx X) (RD (gx X)) WN M1 H1 s ((g (.ref S1.length :: xs) (S1 ++ [.ins c []])).bind fun v S2 => match v with
      | .non => .ok (.ref S1.length) S2
      | _ => .bad) Q) (x dx : Addr) (hx : H1 x = none) (hd : H1 dx = none) (ne : dx ≠ x) :
    spD (gx X) g (.ref x :: (vs ++ [])) (upd (upd H1 dx (.own x)) x (.ins C dx [])) (fun v H2 => v = .non ∧ Q (.ref x) H2) EN := by
  rw [List.append_nil]
  have hx' : upd H1 dx (.own x) x = none := by rw [upd_ne (Ne.symm ne)]; exact hx
  obtain ⟨M2, e2, rh2, rd2⟩ := loc_any (o := .ins c []) (ho := .ins C dx []) (rh1.other (o := .own x) hd) hx' ⟨C, dx, [], rfl, hC, rfl⟩
  have e12 : Ext M1 H1 M2 _ := (Ext.other hd).trans e2
  refine ⟨M2, .ref S1.length :: xs, S1 ++ [.ins c []], RelDs.cons rd2 (rd1.mono e12), rh2, ?_⟩
  cases q : g (.ref S1.length :: xs) (S1 ++ [.ins c []]) with
  | ok v S2 =>
    rw [q] at p1
    intro M' y H' e' rh' rd'
    cases v with
    | non =>
      cases (show _ = _ from rd')
      exact ⟨rfl, p1 M' _ H' (e12.trans e') rh' (RelD.mono (G := gx X) (d := .ref S1.length) e' rd2)⟩
    | _ => exact p1.elim
  | exc c fs S2 =>
    rw [q] at p1
    exact fun M' H' C dx e' rh' q1 q2 => p1 M' H' C dx (e12.trans e') rh' q1 q2
  | bad => rw [q] at p1; exact p1.elim
theorem se_make {c : Str} {C : Addr} {g : Fn} (hC : X.mg c = some (.ref C)) (hc : PE X e (tMake C (spN (gx X) g) [] EN (tA (gx X) WN ds))) : SE X WN e (eMake c g ds) := by
  refine hc.dimp ?_
  rintro s H Q ⟨M, r, S, en, rh, p⟩
  refine ⟨M, r, S, en, rh, (Post.bind (R := RA (gx X)) p).imp fun vs H1 h => ?_⟩
  obtain ⟨M1, xs, S1, e1, rh1, rd1, p1⟩ := h
  exact fun x dx hx hd ne => make_go hC rh1 rd1 p1 x dx hx hd ne
theorem se_make0 {c : Str} {C : Addr} {g : Fn} (hC : X.mg c = some (.ref C)) (hc : PE X e (tMake C (spN (gx X) g) [] EN tNil)) : SE X WN e (eMake c g aNil) := by
  refine hc.dimp ?_
  rintro s H Q ⟨M, r, S, en, rh, p⟩
  exact fun x dx hx hd ne => make_go (M1 := M) (S1 := S) (xs := []) (vs := []) hC rh rfl p x dx hx hd ne
end
/-! ### a def keeps its promise -/
section
variable {P : Program} {w : World} {K : PySem.W.Frag} {mg : Str → Option Value} {base : Heap}
theorem fn_ok {x qual : Str} {params : Arguments} {body : List Stmt} {scope : Scope} {f : Addr} {fd : FuncData} {N ps : List Str} {k np n : Nat} {d : DS} (F : FunD K x qual params body scope [] [] f fd) (S : FnScope N ps scope) (hp : ps.length = np) (hn : N.length = n)
    (hb : ∀ (cdv : Value) (A : Around) (outer : List Env) (s : Shared) (H : Hp) (E : XK) (M0 : Mp), Room k (A.deeper (envOfC qual scope s.heap.objs.size f cdv)) → SSs (cxOf CX0 P w K mg base N qual scope f cdv A outer s H E).nox M0 H WN body d) :
    FnOk P w K mg base CX0 (k + 1) f fd ps (spN (gk K mg) (fnD np n d)) := by
  have len : ∀ {vs : List V} {M : Mp} {ds : List D} {St : Store} {H : Hp} {Q : VK}, RelDs (gk K mg) M ds vs → Post (gk K mg) (RD (gk K mg)) (fun cls dx _ H => EN cls dx H) M H [] (fnD np n d ds St) Q → ds.length = np := fun {vs M ds St H Q} _ p => by
    unfold fnD at p
    split at p
    · assumption
    · exact p.elim
  refine F.ok S (fun vs H Q E h => ?_) fun cdv A outer s H vs Q E hr h => ?_
  · obtain ⟨M, ds, St, rd, rh, p⟩ := h
    rw [hp, ← len rd p, rd.len]
  · obtain ⟨M, ds, St, rd, rh, p⟩ := h
    have hl := len rd p
    refine ⟨_, PSs.nox (hb cdv A outer s H E M hr), M, ds.map Sl.val ++ List.replicate (n - np) Sl.un, St, ⟨⟨?_, fun i z q => ?_, fun i j xs ys a q1 => ?_⟩, rh, Ext.refl, fun i xs a q1 => ?_⟩, ?_⟩
    · have pre : ps.length ≤ N.length := by
        have := congrArg List.length S.pre
        rw [List.length_take] at this
        omega
      unfold L2.start
      simp only [List.length_append, List.length_map, List.length_replicate]
      rw [← rd.len]
      omega
    · unfold L2.start
      by_cases hi : i < ds.length
      · rw [List.getElem?_append_left (by simpa using hi), List.getElem?_map] at q
        obtain ⟨dx, hdx⟩ : ∃ dx, ds[i]? = some dx := ⟨ds[i], by simp [hi]⟩
        rw [hdx] at q
        cases q
        obtain ⟨v, hv, rv⟩ := rd.get hdx
        refine ⟨some v, ?_, v, rfl, rv⟩
        rw [List.getElem?_append_left (by simpa using (rd.len ▸ hi)), List.getElem?_map, hv]
        rfl
      · rw [List.getElem?_append_right (by simpa using hi)] at q
        rw [List.getElem?_replicate] at q
        split at q
        · rename_i hj
          cases q
          refine ⟨none, ?_, trivial⟩
          rw [List.getElem?_append_right (by simpa using (rd.len ▸ Nat.le_of_not_lt hi)), List.getElem?_replicate, if_pos (by
            simp only [List.length_map] at hj ⊢
            rw [← rd.len]
            omega)]
        · cases q
    · exfalso
      have := List.mem_of_getElem? q1
      simp at this
    · exfalso
      have := List.mem_of_getElem? q1
      simp at this
    · unfold fnD at p
      rw [if_pos hl] at p
      cases q : d (ds.map Sl.val ++ List.replicate (n - np) Sl.un) St with
      | next r S1 => rw [q] at p; exact fun M1 s1 H1 w1 l1 => p M1 .non H1 w1.ext w1.heap rfl
      | ret v r S1 => rw [q] at p; exact fun M1 y s1 H1 w1 l1 rv => p M1 y H1 w1.ext w1.heap rv
      | brk r S1 => rw [q] at p; exact p.elim
      | cont r S1 => rw [q] at p; exact p.elim
      | exc c fs r S1 => rw [q] at p; exact fun M1 s1 H1 C dx w1 l1 g x => p M1 H1 C dx w1.ext w1.heap g x
      | bad => rw [q] at p; exact p.elim
/-- the law's entry: nothing is there but the script -/
theorem law_sp {m : Fn} (h : ∀ ns : List Int, ns.length ≤ 63 → ∃ S, m [.lst (ns.map D.int)] [] = .ok (.bl true) S) (H : Hp) (a : Addr) (ns : List Int) (hl : ns.length ≤ 63) (hT : LamX.Tabs Tb.T H) (hS : SqL K H a (ns.map V.int)) :
    spN (gk K mg) m [.ref a] H (fun v _ => v = .bl true) fun _ _ _ => False := by
  obtain ⟨S, hm⟩ := h ns hl
  have intsR : ∀ (M : Mp) (zs : List Int), RelDs (gk K mg) M (zs.map D.int) (zs.map V.int) := fun M zs => by
    induction zs with
    | nil => exact rfl
    | cons z zs ih => exact ⟨_, _, rfl, rfl, ih⟩
  have fin : ∀ M : Mp, RelH (gk K mg) M [] H → (M.lst a = some (ns.map V.int) ∨ SqL K noHp a (ns.map V.int)) → spN (gk K mg) m [.ref a] H (fun v _ => v = .bl true) fun _ _ _ => False := fun M rh ha => by
    refine ⟨M, [.lst (ns.map D.int)], [], RelDs.cons ⟨a, _, rfl, ha, intsR M ns⟩ rfl, rh, ?_⟩
    rw [hm]
    exact fun M' y H' _ _ rd => rd
  rcases hS with hS | hS
  · refine fin ⟨fun _ => none, fun _ => none, fun b => if b = a then some (ns.map V.int) else none⟩ ⟨fun l o q => (by simp at q), fun l b q => (by cases q), fun l k b q => (by cases q), fun b vs q => (by cases q), fun b vs q => ?_, fun b vs l q z => (by cases z), hT⟩ (.inl (by show (if a = a then _ else _) = _; rw [if_pos rfl]))
    have q : (if b = a then some (ns.map V.int) else none) = some vs := q
    split at q
    · rename_i e
      cases q
      rw [e]
      exact hS
    · cases q
  · exact fin ⟨fun _ => none, fun _ => none, fun _ => none⟩ ⟨fun l o q => (by simp at q), fun l b q => (by cases q), fun l k b q => (by cases q), fun b vs q => (by cases q), fun b vs q => (by cases q), fun b vs l q z => (by cases z), hT⟩ (.inr (.inr hS))
end
end Dn

end
section
set_option Elab.async false
set_option linter.all false
set_option maxRecDepth 100000
set_option maxHeartbeats 4000000
/-! The rules: == of instances, count, index. -/
namespace Dn
open PySem PySem.Spec PyProof.Rows PySem.SeqAt L2
variable [Tb]
/-- a class without an __eq__ of its own -/
structure NoEq (K : PySem.W.Frag) (C : Addr) : Prop where
  mro : PySem.W.mroIn K C (.type "object") = some true
  eq : PySem.W.findIn K (.ref C) "__eq__" = some (some (.builtin "object.__eq__"))
section
variable {prog : Program} {w : World} {A : Around} {E : Value → Shared → Prop} {s : Shared} {K : PySem.W.Frag} {x y C : Addr} {ox oy : Obj} {od od' : Option Obj}
theorem objEq_same {Q : Value → Shared → Prop} (X : K.In s.heap) (I : PySem.W.InstAt s.heap x ox C od) (n : NoEq K C) (hq : Q (.bool true) s) : wpAny (model prog w) A (call (.builtin "object.__eq__") [.ref x, .ref x]) Q E s :=
  wpAny_call (codeAny_call_builtin F.cmp_object.eq.plain F.cmpEntry_eq (PySem.W.check_slot F.cmpKind_eq F.cmpSplit_eq (I.type.andThen (PySem.W.looks_mroIn X n.mro)) (F.cmpArgs_eq _ _) (objEq_entry_same hq)))
theorem objEq_other {Q : Value → Shared → Prop} (X : K.In s.heap) (I : PySem.W.InstAt s.heap x ox C od) (hy : s.heap.get? y = some oy) (ne : x ≠ y) (n : NoEq K C) (hq : Q .notImplemented s) : wpAny (model prog w) A (call (.builtin "object.__eq__") [.ref x, .ref y]) Q E s :=
  wpAny_call (codeAny_call_builtin F.cmp_object.eq.plain F.cmpEntry_eq (PySem.W.check_slot F.cmpKind_eq F.cmpSplit_eq (I.type.andThen (PySem.W.looks_mroIn X n.mro)) (F.cmpArgs_eq _ _) (objEq_entry_other ne I.at_ hy (by rw [I.cls]; intro z; cases z) hq)))
theorem try_same {Q : Option Value → Shared → Prop} (X : K.In s.heap) (I : PySem.W.InstAt s.heap x ox C od) (n : NoEq K C) (hq : Q (some (.bool true)) s) : wpAny (model prog w) A (tryCompare (.ref x) "__eq__" (.ref x)) Q E s := by
  unfold tryCompare
  exact wpAny_bind (HN.ifBound_objEq X I n.eq (objEq_same X I n (wpAny_pure hq)))
theorem try_other {Q : Option Value → Shared → Prop} (X : K.In s.heap) (I : PySem.W.InstAt s.heap x ox C od) (hy : s.heap.get? y = some oy) (ne : x ≠ y) (n : NoEq K C) (hq : Q none s) : wpAny (model prog w) A (tryCompare (.ref x) "__eq__" (.ref y)) Q E s := by
  unfold tryCompare
  exact wpAny_bind (HN.ifBound_objEq X I n.eq (objEq_other X I hy ne n (wpAny_pure hq)))
theorem cmp_inst {Q : Value → Shared → Prop} (hu : A.units < cLine) (X : K.In s.heap) (I : PySem.W.InstAt s.heap x ox C od) (J : PySem.W.InstAt s.heap y oy C od') (n : NoEq K C) (hq : Q (.bool (decide (x = y))) s) : wpAny (model prog w) A (compareOp .Eq (.ref x) (.ref y)) Q E s := by
  show wpAny (model prog w) A (richCompare .Eq (.ref x) (.ref y)) Q E s
  simp only [richCompare, cmpInfo_Eq, oneThing_ref]
  refine wpAny_holding (wpAny_bind (wpAny_cRoomFor hu ?_))
  refine wpAny_bind (I.type.here ?_)
  refine wpAny_bind (J.type.here ?_)
  rw [if_neg (by simp)]
  refine wpAny_bind (wpAny_pure ?_)
  by_cases e : x = y
  · subst e
    rw [decide_eq_true rfl] at hq
    simp only [Bool.false_eq_true, if_false]
    exact wpAny_bind (try_same X I n (wpAny_pure hq))
  · rw [decide_eq_false e] at hq
    simp only [Bool.false_eq_true, if_false, Bool.not_false, if_true]
    refine wpAny_bind (try_other X I J.at_ e n ?_)
    refine wpAny_bind (try_other X J I.at_ (Ne.symm e) n ?_)
    refine wpAny_bind (wpAny_rule (wpAny_bind (wpAny_isSame_ref_other e I.at_ J.at_ (by rw [I.cls]; intro z; cases z) (wpAny_pure hq))))
end
section
variable {X : Cx}
def rSame (K : PySem.W.Frag) : R2 := fun x y H Q => ∃ a b C dx fs dy gs, x = .ref a ∧ y = .ref b ∧ H a = some (.ins C dx fs) ∧ H b = some (.ins C dy gs) ∧ NoEq K C ∧ Q (.bl (decide (a = b))) H
theorem op_same (hu : X.A.units < cLine) : OpR X (compareOp .Eq) (rSame X.K) := by
  intro pins s z H x y v u Q I rx ry h
  obtain ⟨a, b, C, dx, fs, dy, gs, rfl, rfl, ha, hb, n, q⟩ := h
  cases rx
  cases ry
  obtain ⟨mA, O, _⟩ := ins_get I.hok ha
  obtain ⟨od, J, _⟩ := O.look
  obtain ⟨mB, O', _⟩ := ins_get I.hok hb
  obtain ⟨od', J', _⟩ := O'.look
  exact cmp_inst hu I.kIn J J' n ⟨.bl _, H, I, rfl, q⟩
theorem opb_same {G : Gx} {c : Str} (hn : ∀ C, G.mg c = some (.ref C) → NoEq G.K C) : OpB G (rSame G.K) (cmpSame c) := by
  intro M S H x y b v u Q rh rx ry h q
  unfold cmpSame at h
  split at h
  · rename_i l k
    split at h
    · rename_i a f1 a' f2 e1 e2
      split at h
      · rename_i hc
        obtain ⟨rfl, rfl⟩ := hc
        cases h
        obtain ⟨p, rfl, h1⟩ := rx
        obtain ⟨p', rfl, h2⟩ := ry
        obtain ⟨p1, y1, C, dx, vfs, x2, x3, x4⟩ := rh.obj l _ e1
        rw [h1] at y1; cases y1
        obtain ⟨p2, y1, C', dx', vfs', x2', x3', x4'⟩ := rh.obj k _ e2
        rw [h2] at y1; cases y1
        rw [x3] at x3'
        cases x3'
        refine ⟨p, p', C, dx, vfs, dx', vfs', rfl, rfl, x2, x2', hn C x3, ?_⟩
        have e : decide (p = p') = decide (l = k) := by
          by_cases e : l = k
          · subst e
            rw [h1] at h2; cases h2
            simp
          · rw [decide_eq_false e, decide_eq_false fun z => e (rh.inj l k p h1 (by rw [z]; exact h2))]
        rw [e]
        exact q
      · cases h
    · cases h
  · cases h
/-! ### count, index -/
def rCntD (K : PySem.W.Frag) : V → List V → Hp → VK → Prop := fun x xs H Q => ∃ (a : Addr) (y : V) (d : PyData) (ds : List PyData), x = V.ref a ∧ xs = [y] ∧ Dp K H (V.ref a) (.list ds) ∧ Dp K H y d ∧ SeqAt.shaped (.list ds) = true ∧ SeqAt.shaped d = true ∧ Q (.int (ds.countP fun z => PyData.eqv z d)) H
theorem mt_countD (hu : X.A.units + 65 < cLine) : MtR X "list.count" (rCntD X.K) := by
  intro pins s z H x xs v us Q I rx rxs h
  obtain ⟨a, y, d, ds, rfl, rfl, hl, hy, sl, sd, q⟩ := h
  cases rx
  obtain ⟨u, rfl, ru⟩ := rxs.one
  obtain ⟨bs, r1⟩ := Dp.reads I d y u hy ru
  have room : X.A.units + 1 + min (PyData.depthAll ds) d.depth < cLine := room_in_shaped sd hu
  cases hl with
  | lst hs ha =>
    obtain ⟨its, rv, pl, hlen⟩ := I.list hs
    obtain ⟨as, h4⟩ := Dp.readsAll I ds _ its ha rv
    have hx : PyData.plainAll ds = true := PyData.plainAll_of_canLay0 ds (SeqAt.canLay_of_shaped sl)
    have hd : d.plain = true := PyData.plain_of_canLay0 d (SeqAt.canLay_of_shaped sd)
    exact count_list_data (vs := its.toArray) pl.isList (show ReadsAll s.heap its.toArray.toList ds as from h4) r1 hx hd room ⟨.int _, H, I.tok _, ⟨_, rfl⟩, q⟩
theorem lst_shaped {xs : List D} (h : D.pls 63 xs = true) : SeqAt.shaped (.list (D.Ps xs)) = true := by
  have q := Ps_lay h
  have q1 : (PyData.list (D.Ps xs)).canLay0 = true := by simp only [PyData.canLay0]; exact q.1
  have q2 : (PyData.list (D.Ps xs)).depth ≤ 64 := by simp only [PyData.depth]; omega
  unfold SeqAt.shaped
  rw [q1, decide_eq_true q2]
  rfl
theorem one_shaped {x : D} (h : D.pl 63 x = true) : SeqAt.shaped x.P = true := by
  have q := P_lay h
  unfold SeqAt.shaped
  rw [q.1, decide_eq_true (by omega)]
  rfl
theorem count_P {x : D} (hx : D.pl 63 x = true) : ∀ {xs : List D}, D.pls 63 xs = true → (D.Ps xs).countP (fun z => PyData.eqv z x.P) = xs.countP fun z => eqD z x
  | [], _ => rfl
  | y :: xs, h => by
    have h' : D.pl 63 y = true ∧ D.pls 63 xs = true := by simpa [D.pls] using h
    simp only [D.Ps, List.countP_cons]
    rw [eqv_of y x h'.1 hx, count_P hx h'.2]
theorem Ps_get : ∀ {xs : List D} {j : Nat} {y : D}, xs[j]? = some y → (D.Ps xs)[j]? = some y.P
  | [], _, _, h => by simp at h
  | x :: xs, 0, y, h => by
    simp at h; subst h
    simp [D.Ps]
  | x :: xs, j + 1, y, h => by
    simp only [D.Ps, List.getElem?_cons_succ]
    exact Ps_get (by simpa using h)
theorem Ps_getI : ∀ {xs : List D} {j : Nat} {z : PyData}, (D.Ps xs)[j]? = some z → ∃ y, xs[j]? = some y ∧ z = y.P
  | [], _, _, h => by simp [D.Ps] at h
  | x :: xs, 0, z, h => by
    simp [D.Ps] at h; subst h
    exact ⟨x, rfl, rfl⟩
  | x :: xs, j + 1, z, h => by
    simp only [D.Ps, List.getElem?_cons_succ] at h
    obtain ⟨y, h1, h2⟩ := Ps_getI h
    exact ⟨y, by simpa using h1, h2⟩
theorem pls_at {k : Nat} : ∀ {xs : List D} {j : Nat} {y : D}, D.pls k xs = true → xs[j]? = some y → D.pl k y = true
  | [], _, _, _, h => by simp at h
  | x :: xs, 0, y, h, e => by
    have h' : D.pl k x = true ∧ D.pls k xs = true := by simpa [D.pls] using h
    simp at e; subst e
    exact h'.1
  | x :: xs, j + 1, y, h, e => by
    have h' : D.pl k x = true ∧ D.pls k xs = true := by simpa [D.pls] using h
    exact pls_at h'.2 (by simpa using e)
variable {W : WX} {e a : Expr} {da : DE} {dl : DL}
theorem sq_list {K : PySem.W.Frag} {H : Hp} {p : Addr} {vs : List V} (h : SqL K H p vs) : tyV K "list" (.ref p) H := .inl ⟨rfl, vs, h⟩
theorem cnt_go {G : Gx} {f : D → List D → Option D} {M : Mp} {S : Store} {H : Hp} {r : Rho} {s : L2.St} {c : Src} {v : V} {Q : VK} (rh : RelH G M S H) (en : EnvR G M H r s) (rd : RSrc G s M H c v)
    (p : Post G (RD G) W M H s ((Rs.ofO (if c.isT then none else c.get r S) S).bind fun _ S => (da r S).bind fun x S => (Rs.ofO (c.get r S) S).bind fun xs S => if D.pl 63 x && D.pls 63 xs then Rs.ofO (f x xs) S else .bad) Q)
    {Q2 : V → Hp → Prop}
    (k : ∀ (M2 : Mp) (S2 : Store) (H2 : Hp) (x : D) (y : V) (xs : List D) (vs : List V) (pa : Addr) (z : D), v = .ref pa → RelH G M2 S2 H2 → RelD G M2 x y → SqL G.K H2 pa vs → RelDs G M2 xs vs → D.pl 63 x = true → D.pls 63 xs = true → f x xs = some z →
      (∀ w, RelD G M2 z w → Q w H2) → Q2 y H2) : tyV G.K "list" v H ∧ tE G W da s H Q2 := by
  cases ht : c.isT with
  | true => rw [ht] at p; exact p.elim
  | false =>
    rw [ht] at p
    cases q : c.get r S with
    | none => rw [q] at p; exact p.elim
    | some xs0 =>
      rw [q] at p
      obtain ⟨pa, vs0, rfl, h1, h2⟩ := src_ok rh en rd q
      rw [ht] at h1
      refine ⟨sq_list h1, M, r, S, en, rh, (Post.bind (R := RD G) p).imp fun y H2 h => ?_⟩
      obtain ⟨M2, x, S2, e2, rh2, rd2, p2⟩ := h
      cases q2 : c.get r S2 with
      | none => rw [q2] at p2; exact p2.elim
      | some xs =>
        rw [q2] at p2
        obtain ⟨pb, vs, e3, h3, h4⟩ := src_ok rh2 (en.mono e2) (rd.mono e2) q2
        cases e3
        rw [ht] at h3
        simp only [Rs.ofO_some, Rs.bind_ok] at p2
        split at p2
        · rename_i hc
          simp only [Bool.and_eq_true] at hc
          cases q3 : f x xs with
          | none => rw [q3] at p2; exact p2.elim
          | some z =>
            rw [q3] at p2
            exact k M2 S2 H2 x y xs vs pa z rfl rh2 rd2 h3 h4 hc.1 hc.2 q3 fun w rw' => p2 M2 w H2 Ext.refl rh2 rw'
        · exact p2.elim
theorem se_count (h : PE X e (tBM X.K "list" (rCntD X.K) (tL (gx X) W dl) (tCons (tE (gx X) W da) tNil))) : SE X W e (eCount dl da) := by
  refine h.dimp ?_
  rintro s H Q ⟨M, r, S, en, rh, p⟩
  refine ⟨M, r, S, en, rh, (Post.bind (R := RSrc (gx X) s) p).imp fun v H1 h => ?_⟩
  obtain ⟨M1, c, S1, e1, rh1, rd1, p1⟩ := h
  refine cnt_go (f := fun x xs => some (.int (xs.countP fun z => eqD z x : Nat))) rh1 (en.mono e1) rd1 p1 fun M2 S2 H2 x y xs vs pa z ev rh2 rx hs rs hx hxs hz q => ?_
  subst ev
  cases hz
  refine ⟨pa, y, x.P, D.Ps xs, rfl, rfl, .lst hs (RelDs.dps rh2 hxs rs), RelD.dp rh2 hx rx, lst_shaped hxs, one_shaped hx, ?_⟩
  rw [count_P hx hxs]
  exact q _ rfl
theorem se_index (h : PE X e (tBM X.K "list" (rIndexD X.K) (tL (gx X) W dl) (tCons (tE (gx X) W da) tNil))) : SE X W e (eIndex dl da) := by
  refine h.dimp ?_
  rintro s H Q ⟨M, r, S, en, rh, p⟩
  refine ⟨M, r, S, en, rh, (Post.bind (R := RSrc (gx X) s) p).imp fun v H1 h => ?_⟩
  obtain ⟨M1, c, S1, e1, rh1, rd1, p1⟩ := h
  refine cnt_go (f := fun x xs => if xs.any (fun z => eqD z x) then some (.int (xs.findIdx fun z => eqD z x : Nat)) else none) (Q := Q) rh1 (en.mono e1) rd1 ?_ fun M2 S2 H2 x y xs vs pa z ev rh2 rx hs rs hx hxs hz q => ?_
  · have e : (fun (x : D) (S : Store) => (Rs.ofO (c.get r S) S).bind fun xs S => if D.pl 63 x && D.pls 63 xs && xs.any (fun z => eqD z x) then Rs.ok (D.int (xs.findIdx fun z => eqD z x : Nat)) S else Rs.bad) =
        fun (x : D) (S : Store) => (Rs.ofO (c.get r S) S).bind fun xs S => if D.pl 63 x && D.pls 63 xs then Rs.ofO (if xs.any (fun z => eqD z x) then some (D.int (xs.findIdx fun z => eqD z x : Nat)) else none) S else Rs.bad := by
      funext x S
      congr 1
      funext xs S
      by_cases h1 : (D.pl 63 x && D.pls 63 xs) = true
      · by_cases h2 : xs.any (fun z => eqD z x) = true
        · simp [h1, h2]
        · simp [h1, h2]
      · simp [h1]
    rw [← e]
    exact p1
  · subst ev
    split at hz
    · rename_i ha
      cases hz
      have hlt : (xs.findIdx fun z => eqD z x) < xs.length := List.findIdx_lt_length_of_exists (by simpa using List.any_eq_true.mp ha)
      have hg : xs[xs.findIdx fun z => eqD z x]? = some xs[xs.findIdx fun z => eqD z x] := List.getElem?_eq_getElem hlt
      have hp : eqD xs[xs.findIdx fun z => eqD z x] x = true := List.findIdx_getElem (p := fun z => eqD z x) (w := hlt)
      refine ⟨pa, y, x.P, D.Ps xs, xs.findIdx fun z => eqD z x, _, rfl, rfl, .lst hs (RelDs.dps rh2 hxs rs), RelD.dp rh2 hx rx, lst_shaped hxs, one_shaped hx, Ps_get hg, ?_, fun m z' hm hz' => ?_, q _ rfl⟩
      · rw [eqv_of _ x (pls_at hxs hg) hx]
        exact hp
      · obtain ⟨y', h1, rfl⟩ := Ps_getI hz'
        rw [eqv_of y' x (pls_at hxs h1) hx]
        have hlm : m < xs.length := (List.getElem?_eq_some_iff.mp h1).1
        have := List.not_of_lt_findIdx (p := fun z => eqD z x) hm
        rw [List.getElem?_eq_getElem hlm] at h1
        cases h1
        simpa using this
    · cases hz
end
end Dn

end
section
set_option Elab.async false
set_option linter.all false
set_option maxRecDepth 100000
set_option maxHeartbeats 4000000
/-! The head's facts, with more of the classes. -/
namespace Dn
open PySem PySem.Spec PyProof.Rows L2
/-- more facts: a class without an __eq__ -/
inductive Fx where
  | noeq (x : Str)
  | xc (x : Str)
  | isx (x y : Str) (b : Bool)
  | isb (x : Str) (t : String) (b : Bool)
  | xf (x f : Str)
  | ins (x : Str)
def Fx.ok (K : PySem.W.Frag) : Fx → Bool
  | .noeq x => decide (PySem.W.mroIn K (He.ga K x) (.type "object") = some true) && He.eqO (PySem.W.findIn K (.ref (He.ga K x)) "__eq__") (some (some (.builtin "object.__eq__")))
  | .xc x => He.eqO (PySem.W.findIn K (.ref (He.ga K x)) "__getattribute__") (some (some (.builtin "BaseException.__getattribute__"))) && (He.eqO (PySem.W.findIn K (.ref (He.ga K x)) "__getattr__") (some none) && (decide (PySem.W.subIn K (.ref (He.ga K x)) (.type "BaseException") = some true) &&
      (PySem.W.hasDictIn K (He.ga K x) && (He.eqO (PySem.W.findIn K (.ref (He.ga K x)) "__class__") (some (some (.builtin "object.__class__"))) && (He.eqO (PySem.W.specialIn K (.builtin "object.__class__") "__get__") (some (some (.builtin "getset_descriptor.__get__"))) &&
      (decide (PySem.W.takesIn K (.builtin "object.__class__") = some true) && decide (PySem.W.mroIn K (He.ga K x) (.type "object") = some true)))))))
  | .isx x y b => decide (PySem.W.kitOne K (.ref (He.ga K x)) (.ref (He.ga K y)) = some b)
  | .isb x t b => decide (PySem.W.kitOne K (.ref (He.ga K x)) (.type t) = some b)
  | .xf x f => L2.xfB K (He.ga K x) && He.eqO (PySem.W.findIn K (.ref (He.ga K x)) f) (some none)
  | .ins x => He.eqO (PySem.W.findIn K (.ref (He.ga K x)) "__class__") (some (some (.builtin "object.__class__"))) && (He.eqO (PySem.W.specialIn K (.builtin "object.__class__") "__get__") (some (some (.builtin "getset_descriptor.__get__"))) &&
      (decide (PySem.W.takesIn K (.builtin "object.__class__") = some true) && decide (PySem.W.mroIn K (He.ga K x) (.type "object") = some true)))
abbrev AlX : Type := Bool × He.AlD
def obsX (n : Nat) (fx : List Fx) (fa : List He.Fa) (fn : List He.DefD) (g : Addr → Option Obj) : AlX := (fx.all fun f => f.ok (He.frG g (He.asD g n)), He.obsDG n fa fn g)
def SaysX (fx : List Fx) (fa : List He.Fa) (fn : List He.DefD) (K : PySem.W.Frag) : Prop := He.SaysD fa fn K ∧ (fx.all fun f => f.ok K) = true
def hookX (n : Nat) (fx : List Fx) (fa : List He.Fa) (fn : List He.DefD) : PySem.W.Hook where
  α := AlX
  obs := fun s => obsX n fx fa fn s.heap.get?
  val := fun _ => (true, He.valD fn)
  says := fun _ h => ∃ K : PySem.W.Frag, K.In h ∧ SaysX fx fa fn K
  of := fun _ _ e => ⟨_, He.frG_in, congrArg (fun z : AlX => z.2) e, congrArg (fun z : AlX => z.1) e⟩
  keeps := fun _ _ _ ⟨K, hK, c⟩ k => ⟨K, PySem.W.Frag.In.keeps hK k, c⟩
theorem obsX_eq {n : Nat} {fx : List Fx} {fa : List He.Fa} {fn : List He.DefD} {g : Addr → Option Obj} {s : Shared} (h : ∀ a, g a = s.heap.get? a) : obsX n fx fa fn g = (hookX n fx fa fn).obs s := by
  have e : g = s.heap.get? := funext h
  rw [e] <;> rfl
theorem noeq_ok {K : PySem.W.Frag} {x : Str} (c : (Fx.noeq x).ok K = true) : NoEq K (He.ga K x) := by
  unfold Fx.ok at c
  simp only [Bool.and_eq_true, decide_eq_true_eq] at c
  exact ⟨c.1, He.eqO_ok c.2⟩
theorem xc_ok {K : PySem.W.Frag} {x : Str} (c : (Fx.xc x).ok K = true) : L2.ExcC K (He.ga K x) := by
  unfold Fx.ok at c
  simp only [Bool.and_eq_true, decide_eq_true_eq] at c
  obtain ⟨c1, c2, c3, c4, c5, c6, c7, c8⟩ := c
  exact ⟨He.eqO_ok c1, He.eqO_ok c2, c3, c4, He.eqO_ok c5, He.eqO_ok c6, c7, c8⟩
theorem isx_ok {K : PySem.W.Frag} {x y : Str} {b : Bool} (c : (Fx.isx x y b).ok K = true) : PySem.W.kitOne K (.ref (He.ga K x)) (.ref (He.ga K y)) = some b := of_decide_eq_true c
theorem isb_ok {K : PySem.W.Frag} {x : Str} {t : String} {b : Bool} (c : (Fx.isb x t b).ok K = true) : PySem.W.kitOne K (.ref (He.ga K x)) (.type t) = some b := of_decide_eq_true c
theorem xf_ok {K : PySem.W.Frag} {x f : Str} (c : (Fx.xf x f).ok K = true) : L2.XfC K (He.ga K x) ∧ PySem.W.findIn K (.ref (He.ga K x)) f = some none := by
  unfold Fx.ok at c
  simp only [Bool.and_eq_true] at c
  exact ⟨L2.xfB_ok c.1, He.eqO_ok c.2⟩
/-- what isinstance asks of an own class -/
structure InsK (K : PySem.W.Frag) (C : Addr) : Prop where
  ha : PySem.W.findIn K (.ref C) "__class__" = some (some (.builtin "object.__class__"))
  hn : PySem.W.specialIn K (.builtin "object.__class__") "__get__" = some (some (.builtin "getset_descriptor.__get__"))
  htk : PySem.W.takesIn K (.builtin "object.__class__") = some true
  hm : PySem.W.mroIn K C (.type "object") = some true
theorem ins_ok {K : PySem.W.Frag} {x : Str} (c : (Fx.ins x).ok K = true) : InsK K (He.ga K x) := by
  unfold Fx.ok at c
  simp only [Bool.and_eq_true, decide_eq_true_eq] at c
  exact ⟨He.eqO_ok c.1, He.eqO_ok c.2.1, c.2.2.1, c.2.2.2⟩
theorem SaysX.fact {fx : List Fx} {fa : List He.Fa} {fn : List He.DefD} {K : PySem.W.Frag} (c : SaysX fx fa fn K) (i : Nat) {f : He.Fa} (h : fa[i]? = some f := by rfl) : f.ok K = true := c.1.fact i h
theorem SaysX.def_ {fx : List Fx} {fa : List He.Fa} {fn : List He.DefD} {K : PySem.W.Frag} (c : SaysX fx fa fn K) (i : Nat) {d : He.DefD} (h : fn[i]? = some d := by rfl) : ∃ fd, FunD K d.name d.qual d.params d.body d.scope (d.dvs K) (d.kws K) (He.fAd K d.at_) fd := c.1.def_ i h
theorem SaysX.more {fx : List Fx} {fa : List He.Fa} {fn : List He.DefD} {K : PySem.W.Frag} (c : SaysX fx fa fn K) (i : Nat) {f : Fx} (h : fx[i]? = some f := by rfl) : f.ok K = true := List.all_eq_true.mp c.2 f (List.mem_of_getElem? h)
/-! ### tests, short words -/
variable [Tb]
theorem tofb_t {G : Gx} {W : WX} {d : DE} {s : L2.St} {H : Hp} {Q : Bool → Hp → Prop} (h : tT G W (tOfB d) s H Q) : tE G W d s H fun x H1 => ∃ k, x = .bl k ∧ Q k H1 := by
  obtain ⟨M, r, S, en, rh, p⟩ := h
  refine ⟨M, r, S, en, rh, p.bind.imp fun v H1 h => ?_⟩
  obtain ⟨M1, x, S1, e1, rh1, rd1, p1⟩ := h
  cases x with
  | bl b =>
    cases (show _ = _ from rd1)
    exact ⟨b, rfl, p1 M1 _ H1 Ext.refl rh1 rfl⟩
  | _ => exact p1.elim
section
variable {X : Cx} {W : WX} {a b c e : Expr} {da db dc : DE} {dl : DL} {pos : Pos}
theorem st_in {op : CmpOp} {neg : Bool} (ho : OpR X (compareOp op) (rInA X.K neg)) (ha : SE X W a da) (hb : SL X W b dl) (hm : behindInMarks op b = false) : ST X W (.Compare a [op] [b] pos) (tOfB (eIn neg da dl)) :=
  (pt_cmpR ho ha hb hm).dimp fun _ _ _ h => in_t (tofb_t h)
theorem st_chain {op op' : CmpOp} {r r' : R2} {f g : Store → D → D → Option Bool} (hf : OpB (gx X) r f) (hg : OpB (gx X) r' g) (hm : PT X (.Compare a [op, op'] [b, c] pos) (tTest (tChain r r' (tE (gx X) W da) (tE (gx X) W db) (tE (gx X) W dc)))) :
    ST X W (.Compare a [op, op'] [b, c] pos) (tOfB (eChain f g da db dc)) := hm.dimp fun _ _ _ h => chain_t hf hg (tofb_t h)
theorem sv (i : Nat) {x : Str} (hN : X.N[i]? = some x := by rfl) (hv : Vis X.env.scope x := by first | exact Or.inl rfl | exact Or.inr (Or.inl rfl) | exact Or.inr (Or.inr rfl)) (hd : (x == ("__debug__" : Str)) = false := by decide) (hcd : (x == ("__classdict__" : Str)) = false := by decide) : SE X W (.Name x pos) (eVar i) := se_var hN hv hd hcd
end
section
variable {X : Cx} {M0 : Mp} {H0 : Hp} {W : WX} {e : Expr} {st : Stmt} {di : DI} {g : TG} {d : DG} {dt : DT} {de : DE} {is vs : List Nat} {i : Nat}
theorem pts_y {G : Gx} {W : WX} : PTs X [] (tT G W tYesD) := ⟨fun pins s z H Q I h => pts_nil.run pins s z H Q I (by
  obtain ⟨M, r, S, en, rh, p⟩ := h
  exact p M _ H Ext.refl rh rfl)⟩
theorem sn_lcT (hg : GOk (gx X) is g d) (hv : ∀ i ∈ is, i ∈ vs) (h : PE X e (tLc (tI (gx X) W di) g (tT (gx X) WN dt) (tE (gx X) WN de) vs)) : SN X W e (nLc di d dt de vs) := h.dimp fun _ _ _ => lc_t hg hv
theorem ss_lcFT (hg : GOk (gx X) is g d) (hv : ∀ i ∈ is, i ∈ vs) (h : PS X st (tAsg (tLc (tI (gx X) W di) g (tT (gx X) WN dt) (tE (gx X) WN de) vs) (gName i))) : SS X M0 H0 W st (sSet i (eFrz (nLc di d dt de vs))) := ss_lcF h fun _ _ _ => lc_t hg hv
theorem ss_lcNT (hg : GOk (gx X) is g d) (hv : ∀ i ∈ is, i ∈ vs) (h : PS X st (tAsg (tLc (tI (gx X) W di) g (tT (gx X) WN dt) (tE (gx X) WN de) vs) (gName i))) : SS X M0 H0 W st (sSet i (eNew (nLc di d dt de vs))) := ss_lcN h fun _ _ _ => lc_t hg hv
theorem ss_lcOT (hg : GOk (gx X) is g d) (hv : ∀ i ∈ is, i ∈ vs) (h : PS X st (tAsg (tLc (tI (gx X) W di) g (tT (gx X) WN dt) (tE (gx X) WN de) vs) (gName i))) : SS X M0 H0 W st (sSetOwn i (nLc di d dt de vs)) := ss_lcO h fun _ _ _ => lc_t hg hv
end
theorem hu0 {k : Nat} {A : Around} (h : Room k A) : A.units < cLine := by have := h.un; omega
theorem hu64 {k : Nat} {A : Around} (h : Room k A) : A.units + 64 < cLine := by have := h.un; omega
theorem hu65 {k : Nat} {A : Around} (h : Room k A) : A.units + 65 < cLine := by have := h.un; omega
theorem hu70 {k : Nat} {A : Around} (h : Room k A) : A.units + 70 < cLine := by have := h.un; omega
/-- a class's field, from the head's facts -/
theorem fld_of {G : Gx} {c f : Str} (hg : G.mg c = some (.ref (He.ga G.K c))) (hc : Cls G.K (He.ga G.K c)) (hn : NoAttr G.K (He.ga G.K c) f) : FldOk G c f := fun C h => by
  rw [hg] at h
  cases h
  exact ⟨hc, hn⟩
theorem noeq_of {G : Gx} {c : Str} (hg : G.mg c = some (.ref (He.ga G.K c))) (hn : NoEq G.K (He.ga G.K c)) : ∀ C, G.mg c = some (.ref C) → NoEq G.K C := fun C h => by
  rw [hg] at h
  cases h
  exact hn
theorem gs_in {is vs : List Nat} (h : (is.all fun i => vs.contains i) = true) : ∀ i ∈ is, i ∈ vs := fun i hi => by
  have := List.all_eq_true.mp h i hi
  simpa using this
/-- a def's function object is one -/
theorem fd_one {K : PySem.W.Frag} {x x' qual qual' : Str} {params params' : Arguments} {body body' : List Stmt} {scope scope' : Scope} {dvs dvs' : List V} {kws kws' : List (Str × V)} {f : Addr} {fd fd' : FuncData} (F : FunD K x qual params body scope dvs kws f fd) (F' : FunD K x' qual' params' body' scope' dvs' kws' f fd') : fd = fd' := by
  obtain ⟨oc, od, dV, kV, doc, pm, an, cdv, ct, osl, _, lk, _⟩ := F.ex
  obtain ⟨oc', od', dV', kV', doc', pm', an', cdv', ct', osl', _, lk', _⟩ := F'.ex
  rw [lk] at lk'
  injection lk' with e
  injection e with _ _ e
  injection e
end Dn

end
section
set_option Elab.async false
set_option linter.all false
set_option maxRecDepth 100000
set_option maxHeartbeats 4000000
/-! Calls that may let an exception out; pins change. -/
namespace Dn
open PySem PySem.Spec PyProof.Rows L2
variable [Tb]
/-! ### what is told does not hang on the pins -/
section
variable {G : Gx} {pn : List (Addr × Obj)} {lm : Option (Addr × Mp × Hp)} {M : Mp}
abbrev Gx.at_ (G : Gx) (pn : List (Addr × Obj)) (lm : Option (Addr × Mp × Hp)) : Gx := ⟨G.K, G.mg, G.T, pn, lm⟩
mutual
theorem RelD.g : ∀ {d : D} {v : V}, RelD G M d v → RelD (G.at_ pn lm) M d v
  | .non, _, h => h
  | .bl _, _, h => h
  | .int _, _, h => h
  | .str _, _, h => h
  | .tup ds, _, h => by
    obtain ⟨a, vs, rfl, h1, h2⟩ := h
    exact ⟨a, vs, rfl, h1, RelDs.g h2⟩
  | .lst ds, _, h => by
    obtain ⟨a, vs, rfl, h1, h2⟩ := h
    exact ⟨a, vs, rfl, h1, RelDs.g h2⟩
  | .ref l, _, h => h
  | .cls _, _, h => h
  | .fn _, _, h => h
theorem RelDs.g : ∀ {ds : List D} {vs : List V}, RelDs G M ds vs → RelDs (G.at_ pn lm) M ds vs
  | [], _, h => h
  | d :: ds, _, h => by
    obtain ⟨v, r, rfl, h1, h2⟩ := h
    exact ⟨v, r, rfl, RelD.g h1, RelDs.g h2⟩
end
theorem RelFs.g : ∀ {ds : List (Str × D)} {vs : List (Str × V)}, RelFs G M ds vs → RelFs (G.at_ pn lm) M ds vs
  | [], _, h => h
  | (f, d) :: ds, _, h => by
    obtain ⟨v, r, rfl, h1, h2⟩ := h
    exact ⟨v, r, rfl, RelD.g h1, RelFs.g h2⟩
theorem ObjR.g {o : SO} {x : Option HO} (h : ObjR G M o x) : ObjR (G.at_ pn lm) M o x := by
  cases o with
  | lst ds => obtain ⟨vs, h1, h2⟩ := h; exact ⟨vs, h1, RelDs.g h2⟩
  | ins c fs => obtain ⟨C, dx, vfs, h1, h2, h3⟩ := h; exact ⟨C, dx, vfs, h1, h2, RelFs.g h3⟩
  | dct _ _ => exact DctR.map (fun _ _ q => RelD.g q) h
theorem RelH.g {S : Store} {H : Hp} (h : RelH G M S H) : RelH (G.at_ pn lm) M S H :=
  ⟨fun l o q => let ⟨a, e1, e2⟩ := h.obj l o q; ⟨a, e1, e2.g⟩, h.dom, h.inj, h.tup, h.lst, h.apt, h.tabs⟩
theorem ExcR.g {fs : List (Str × D)} {dx : Option Addr} {H : Hp} (h : ExcR G M fs dx H) : ExcR (G.at_ pn lm) M fs dx H := by
  rcases h with h | ⟨d, vfs, h1, h2, h3, h4⟩
  · exact .inl h
  · exact .inr ⟨d, vfs, h1, h2, h3.g, h4⟩
theorem Post.g {W : WX} {H : Hp} {s : L2.St} {r : Rs D} {Q : VK} (h : Post G (RD G) W M H s r Q) : Post (G.at_ pn lm) (RD (G.at_ pn lm)) W M H s r Q := by
  cases r with
  | ok x S => exact fun M' y H' e rh rd => h M' y H' e (RelH.g (pn := G.pn) (lm := G.lam) (G := G.at_ pn lm) rh) (RelD.g (pn := G.pn) (lm := G.lam) (G := G.at_ pn lm) rd)
  | exc c fs S => exact fun M' H' C dx e rh g x => h M' H' C dx e (RelH.g (pn := G.pn) (lm := G.lam) (G := G.at_ pn lm) rh) g (ExcR.g (pn := G.pn) (lm := G.lam) (G := G.at_ pn lm) x)
  | bad => exact h
end
section
variable {X : Cx} {W : WX} {k : Nat} {f C : Addr} {fd : FuncData} {ps : List Str} {m : Fn} {x mn c : Str} {p pos apos : Pos} {e o : Expr} {es : List Expr} {da : DE} {ds : DA}
/-- a promise, from a caller's context -/
theorem spD_at {M : Mp} {xs : List D} {S : Store} {vs : List V} {H : Hp} {s : L2.St} {Q : VK} {E : XK} (h1 : RelDs (gx X) M xs vs) (h2 : RelH (gx X) M S H) (hE : ∀ cls dx H', W cls dx s H' → E cls dx H') (h : Post (gx X) (RD (gx X)) W M H s (m xs S) Q) :
    spD (gk X.K X.mg) m vs H Q E := spD_of (G := gk X.K X.mg) (RelDs.g (G := gx X) (pn := []) (lm := Tb.lam) h1) (RelH.g (G := gx X) (pn := []) (lm := Tb.lam) h2) hE (Post.g (G := gx X) (pn := []) (lm := Tb.lam) h)
/-- a def of the text, called -/
theorem sx_call (F : FnOk X.prog X.w X.K X.mg X.base (L2.CX X.prog X.w) k f fd ps (spD (gk X.K X.mg) m)) (hr : Room k X.A) (hg : Gl X x) (hm : X.mg x = some (.ref f)) (hk : PySem.W.keepIn X.K (.ref f) = true) (hb : Binds X.K fd ps []) (tk : Takes X W)
    (ha : SA X W (e :: es) ds) (hdb : (x == ("__debug__" : Str)) = false := by decide) (he : starEach (e :: es) X.env = (false, eval e X.env) :: starEach es X.env := by rfl) (hpl : (backTo pos (starEach es X.env)).any (·.1) = false := by rfl) :
    SE X W (.Call (.Name x p) (e :: es) [] pos) (eCall m ds) := by
  refine (pe_callS (E := WE W) F hr hg hm hk hb (fun σ => passAt tk σ) ha hdb he hpl).dimp ?_
  rintro s H Q ⟨M, r, S, en, rh, p⟩
  refine ⟨M, r, S, en, rh, (Post.bind (R := RA (gx X)) p).imp fun vs H1 h => ?_⟩
  obtain ⟨M1, xs, S1, e1, rh1, rd1, p1⟩ := h
  exact spD_at rd1 rh1 (fun _ _ _ z => z) p1
theorem sx_call0 (F : FnOk X.prog X.w X.K X.mg X.base (L2.CX X.prog X.w) k f fd ps (spD (gk X.K X.mg) m)) (hr : Room k X.A) (hg : Gl X x) (hm : X.mg x = some (.ref f)) (hk : PySem.W.keepIn X.K (.ref f) = true) (hb : Binds X.K fd ps []) (tk : Takes X W)
    (hdb : (x == ("__debug__" : Str)) = false := by decide) : SE X W (.Call (.Name x p) [] [] pos) (eCall m aNil) := by
  refine ⟨fun pins s σ H Q I h => ?_⟩
  obtain ⟨M, r, S, en, rh, p⟩ := h
  have p : Post (gx X) (RD (gx X)) W M H σ (m [] S) Q := p
  refine wpAny_Call_Name_kw (ld_glob I hg hm ?_ hdb)
  exact PySem.W.callWith_K0 I.kIn hk (run_fnS (E := WE W) (us := []) F hr hb (passAt tk σ) I .nil (spD_at (vs := []) (xs := []) rfl rh (fun _ _ _ z => z) p))
/-- what a method's call asks of the receiver -/
def recvD (c m : Str) (S : Store) (x : D) (k : Rs D) : Rs D := match x with
  | .ref l => (match S[l]? with
    | some (.ins c' fs) => if c' = c ∧ fs.lookup m = none then k else .bad
    | _ => .bad)
  | _ => .bad
theorem recv {c : Str} {C : Addr} {M1 : Mp} {S1 : Store} {H1 : Hp} {s : L2.St} {v : V} {d : D} {Q : VK} {k : Rs D} (hC : X.mg c = some (.ref C)) (rh1 : RelH (gx X) M1 S1 H1) (rd1 : RelD (gx X) M1 d v)
    (p1 : Post (gx X) (RD (gx X)) W M1 H1 s (recvD c mn S1 d k) Q) : ∃ l a dx fs, d = .ref l ∧ v = .ref a ∧ H1 a = some (.ins C dx fs) ∧ fs.lookup mn = none ∧ Post (gx X) (RD (gx X)) W M1 H1 s k Q := by
  cases d with
  | ref l =>
    obtain ⟨pa, rfl, h1⟩ := rd1
    dsimp only [recvD] at p1
    cases q : S1[l]? with
    | none => rw [q] at p1; exact p1.elim
    | some o =>
      rw [q] at p1
      cases o with
      | ins k fs =>
        dsimp only at p1
        obtain ⟨a2, x1, C2, dx, vfs, x2, x3, x4⟩ := rh1.obj l _ q
        rw [h1] at x1; cases x1
        split at p1
        · rename_i hk
          obtain ⟨rfl, hn⟩ := hk
          have x3 : X.mg k = some (.ref C2) := x3
          rw [hC] at x3
          cases x3
          exact ⟨l, pa, dx, vfs, rfl, rfl, x2, x4.lookupN hn, p1⟩
        · exact p1.elim
      | lst _ => exact p1.elim
      | dct _ _ => exact p1.elim
  | _ => exact p1.elim
theorem sx_meth {pl : Sem Bool} {g : Fn} (hC : X.mg c = some (.ref C)) (he : SE X W o da) (cl : Cls X.K C) (hm : Meth X.K C mn f) (F : FnOk X.prog X.w X.K X.mg X.base (L2.CX X.prog X.w) k f fd ps (spD (gk X.K X.mg) g)) (hr : Room k X.A) (hb : Binds X.K fd ps []) (tk : Takes X W)
    (ha : SA X W (e :: es) ds) (hst : starEach (e :: es) X.env = (false, eval e X.env) :: starEach es X.env := by rfl) (hpl : (backTo pos (starEach es X.env)).any (·.1) = false := by rfl)
    (ht : eval (.Call (.Attribute o mn apos) (e :: es) [] pos) X.env = (do
      let ov ← eval o X.env
      standAt apos.atName
      let (f, first) ← holding [ov] (getMethod ov mn pl)
      callWith pos f first (backTo pos (starEach (e :: es) X.env)) (backToKw pos (keywordEach [] X.env))) := by rfl) :
    SE X W (.Call (.Attribute o mn apos) (e :: es) [] pos) (eMeth c mn g da ds) := by
  refine ⟨fun pins s σ H Q I h => ?_⟩
  obtain ⟨M, r, S, en, rh, p⟩ := h
  refine PySem.W.methodCall_KW (pl := pl) (thn (he.run pins s σ H _ I ⟨M, r, S, en, rh, (Post.bind (R := RD (gx X)) p).imp fun v H1 h => (show ∃ a dx fs, v = V.ref a ∧ H1 a = some (.ins C dx fs) ∧ fs.lookup mn = none ∧ tA (gx X) W ds σ H1 (fun vs H2 => spD (gk X.K X.mg) g (V.ref a :: vs) H2 Q (WE W σ)) from ?_)⟩) fun u s1 ⟨x, H1, I1, rx, a, dx, fs, ex, ea, l, q⟩ => ?_) ht
  · obtain ⟨M1, d, S1, e1, rh1, rd1, p1⟩ := h
    have p1 : Post (gx X) (RD (gx X)) W M1 H1 σ (recvD c mn S1 d ((ds r S1).bind fun xs S => g (d :: xs) S)) Q := p1
    obtain ⟨l, a, dx, fs, rfl, rfl, h1, h2, p2⟩ := recv hC rh1 rd1 p1
    refine ⟨a, dx, fs, rfl, h1, h2, M1, r, S1, en.mono e1, rh1, (Post.bind (R := RA (gx X)) p2).imp fun vs H2 h => ?_⟩
    obtain ⟨M2, xs, S2, e2, rh2, rd2, p3⟩ := h
    exact spD_at (xs := .ref l :: xs) (RelDs.cons (RelD.mono (G := gx X) (d := .ref l) e2 rd1) rd2) rh2 (fun _ _ _ z => z) p3
  · subst ex
    obtain rfl : u = Value.ref a := rx
    refine getmeth_ok I1 ea cl hm l ?_
    refine PySem.W.callWith_K (first := [.ref a]) (h₀ := X.base) I.ok.mod.kin hm.kp (thn (ha.run pos pins s1 σ H1 _ I1 q) fun us s2 ⟨vs, H2, I2, r, q2⟩ => ⟨I2.kIn, ?_⟩) hst hpl
    exact run_fnS (E := WE W) (us := .ref a :: us) (vs := .ref a :: vs) F hr hb (passAt tk σ) I2 (.cons rfl r) q2
theorem sx_meth0 {pl : Sem Bool} {g : Fn} (hC : X.mg c = some (.ref C)) (he : SE X W o da) (cl : Cls X.K C) (hm : Meth X.K C mn f) (F : FnOk X.prog X.w X.K X.mg X.base (L2.CX X.prog X.w) k f fd ps (spD (gk X.K X.mg) g)) (hr : Room k X.A) (hb : Binds X.K fd ps []) (tk : Takes X W)
    (ht : eval (.Call (.Attribute o mn apos) [] [] pos) X.env = (do
      let ov ← eval o X.env
      standAt apos.atName
      let (f, first) ← holding [ov] (getMethod ov mn pl)
      callWith pos f first (backTo pos (starEach [] X.env)) (backToKw pos (keywordEach [] X.env))) := by rfl) :
    SE X W (.Call (.Attribute o mn apos) [] [] pos) (eMeth c mn g da aNil) := by
  refine ⟨fun pins s σ H Q I h => ?_⟩
  obtain ⟨M, r, S, en, rh, p⟩ := h
  refine PySem.W.methodCall_KW (pl := pl) (thn (he.run pins s σ H _ I ⟨M, r, S, en, rh, (Post.bind (R := RD (gx X)) p).imp fun v H1 h => (show ∃ a dx fs, v = V.ref a ∧ H1 a = some (.ins C dx fs) ∧ fs.lookup mn = none ∧ spD (gk X.K X.mg) g [V.ref a] H1 Q (WE W σ) from ?_)⟩) fun u s1 ⟨x, H1, I1, rx, a, dx, fs, ex, ea, l, q⟩ => ?_) ht
  · obtain ⟨M1, d, S1, e1, rh1, rd1, p1⟩ := h
    have p1 : Post (gx X) (RD (gx X)) W M1 H1 σ (recvD c mn S1 d (g [d] S1)) Q := p1
    obtain ⟨l, a, dx, fs, rfl, rfl, h1, h2, p2⟩ := recv hC rh1 rd1 p1
    have p2 : Post (gx X) (RD (gx X)) W M1 H1 σ (g [.ref l] S1) Q := p2
    exact ⟨a, dx, fs, rfl, h1, h2, spD_at (xs := [.ref l]) (RelDs.cons rd1 rfl) rh1 (fun _ _ _ z => z) p2⟩
  · subst ex
    obtain rfl : u = Value.ref a := rx
    refine getmeth_ok I1 ea cl hm l ?_
    exact PySem.W.callWith_K0 (first := [.ref a]) I1.kIn hm.kp (run_fnS (E := WE W) (us := [.ref a]) (vs := [.ref a]) F hr hb (passAt tk σ) I1 (.cons rfl .nil) q)
/-- a new instance -/
theorem run_makeS {sp : Sp} {E : L2.St → XK} {pins : List (Addr × Obj)} {σ : L2.St} {H : Hp} {s : Shared} {Q : VK} {us : List Value} {vs : List V} (M : Mk X.K C f) (F : FnOk X.prog X.w X.K X.mg X.base (L2.CX X.prog X.w) k f fd ps sp) (hr : Room (k + 1) X.A) (hb : Binds X.K fd ps [])
    (hx : PassesAt (L2.CX X.prog X.w) X σ (E σ)) (I : Inv X pins σ H s) (r : Vals vs us)
    (h : ∀ x dx, H x = none → H dx = none → dx ≠ x → sp (.ref x :: vs) (upd (upd H dx (.own x)) x (.ins C dx [])) (fun v H2 => v = .non ∧ Q (.ref x) H2) (E σ)) :
    wpAny (model X.prog X.w) X.A (call (.ref C) us) (EP X pins σ Q) X.xe s := by
  have hq := h (s.heap.objs.size + 1) s.heap.objs.size (I.hok.fresh (Nat.le_succ _)) (I.hok.fresh (Nat.le_refl _)) (Nat.ne_of_lt (Nat.lt_succ_self _))
  have I2 := Inv.made (C := C) I
  have r2 : Vals (V.ref (s.heap.objs.size + 1) :: vs) (Value.ref (s.heap.objs.size + 1) :: us) := .cons rfl r
  have hl : (Value.ref (s.heap.objs.size + 1) :: us).length = ps.length := by
    have e := r2.length
    rw [F.len _ _ _ _ hq] at e
    exact e.symm
  have b := hb _ (Value.ref (s.heap.objs.size + 1) :: us) I2.kIn (by rw [List.append_nil]; exact hl)
  rw [List.append_nil] at b
  refine wpAny_call (make_map (f := f) I.kIn M.makes M.init (beq_iff_eq.mp M.fn) (codeAny_mono (F.run _ X.stack _ _ ⟨Value.ref (s.heap.objs.size + 1) :: us, []⟩ (Value.ref (s.heap.objs.size + 1) :: us) _ _ (E σ) (hr.make C us [])
    (I2.env0.make C us []) b r2 hq) fun r s' hq' => ?_))
  cases r with
  | error e => exact hx pins _ _ e s' I2 hq'
  | ok fl =>
    cases fl with
    | ret u =>
      obtain ⟨v, H', I3, rv, ev, q3⟩ := I2.after hq'
      subst ev
      exact ⟨rv, ⟨V.ref (s.heap.objs.size + 1), H', I3, rfl, q3⟩⟩
    | next => exact False.elim hq'
    | brk => exact False.elim hq'
    | cont => exact False.elim hq'
theorem make_goW {g : Fn} {M1 : Mp} {S1 : Store} {H1 : Hp} {xs : List D} {vs : List V} {s : L2.St} {Q : VK} (hC : X.mg c = some (.ref C)) (rh1 : RelH (gx X) M1 S1 H1) (rd1 : RelDs (gx X) M1 xs vs)
    (p1 : Post (gx X) (RD (gx X)) W M1 H1 s ((g (.ref S1.length :: xs) (S1 ++ [.ins c []])).bind fun v S2 => match v with
      | .non => .ok (.ref S1.length) S2
      | _ => .bad) Q) (x dx : Addr) (hx : H1 x = none) (hd : H1 dx = none) (ne : dx ≠ x) :
    spD (gk X.K X.mg) g (.ref x :: vs) (upd (upd H1 dx (.own x)) x (.ins C dx [])) (fun v H2 => v = .non ∧ Q (.ref x) H2) (WE W s) := by
  have hx' : upd H1 dx (.own x) x = none := by rw [upd_ne (Ne.symm ne)]; exact hx
  obtain ⟨M2, e2, rh2, rd2⟩ := loc_any (o := .ins c []) (ho := .ins C dx []) (rh1.other (o := .own x) hd) hx' ⟨C, dx, [], rfl, hC, rfl⟩
  have e12 : Ext M1 H1 M2 _ := (Ext.other hd).trans e2
  refine spD_at (W := W) (s := s) (xs := .ref S1.length :: xs) (RelDs.cons rd2 (rd1.mono e12)) rh2 (fun _ _ _ z => z) ?_
  cases q : g (.ref S1.length :: xs) (S1 ++ [.ins c []]) with
  | ok v S2 =>
    rw [q] at p1
    intro M' y H' e' rh' rd'
    cases v with
    | non =>
      cases (show _ = _ from rd')
      exact ⟨rfl, p1 M' _ H' (e12.trans e') rh' (RelD.mono (G := gx X) (d := .ref S1.length) e' rd2)⟩
    | _ => exact p1.elim
  | exc c fs S2 =>
    rw [q] at p1
    exact fun M' H' C dx e' rh' q1 q2 => p1 M' H' C dx (e12.trans e') rh' q1 q2
  | bad => rw [q] at p1; exact p1.elim
theorem sx_make {g : Fn} (hC : X.mg c = some (.ref C)) (M : Mk X.K C f) (F : FnOk X.prog X.w X.K X.mg X.base (L2.CX X.prog X.w) k f fd ps (spD (gk X.K X.mg) g)) (hr : Room (k + 1) X.A) (hg : Gl X c) (hb : Binds X.K fd ps []) (tk : Takes X W)
    (ha : SA X W (e :: es) ds) (hdb : (c == ("__debug__" : Str)) = false := by decide) (he : starEach (e :: es) X.env = (false, eval e X.env) :: starEach es X.env := by rfl) (hpl : (backTo pos (starEach es X.env)).any (·.1) = false := by rfl) :
    SE X W (.Call (.Name c p) (e :: es) [] pos) (eMake c g ds) := by
  refine ⟨fun pins s σ H Q I h => ?_⟩
  obtain ⟨M0, r, S, en, rh, p⟩ := h
  refine wpAny_Call_Name_kw (ld_glob I hg hC ?_ hdb)
  refine PySem.W.callWith_K (h₀ := X.base) I.ok.mod.kin M.kp (thn (ha.run pos pins s σ H _ I ⟨M0, r, S, en, rh, Post.bind (R := RA (gx X)) p⟩) fun us s1 ⟨vs, H1, I1, r1, q⟩ => ⟨I1.kIn, ?_⟩) he hpl
  obtain ⟨M1, xs, S1, e1, rh1, rd1, p1⟩ := q
  exact run_makeS (E := WE W) M F hr hb (passAt tk σ) I1 r1 fun x dx hx hd ne => make_goW hC rh1 rd1 p1 x dx hx hd ne
theorem sx_make0 {g : Fn} (hC : X.mg c = some (.ref C)) (M : Mk X.K C f) (F : FnOk X.prog X.w X.K X.mg X.base (L2.CX X.prog X.w) k f fd ps (spD (gk X.K X.mg) g)) (hr : Room (k + 1) X.A) (hg : Gl X c) (hb : Binds X.K fd ps []) (tk : Takes X W)
    (hdb : (c == ("__debug__" : Str)) = false := by decide) : SE X W (.Call (.Name c p) [] [] pos) (eMake c g aNil) := by
  refine ⟨fun pins s σ H Q I h => ?_⟩
  obtain ⟨M0, r, S, en, rh, p⟩ := h
  refine wpAny_Call_Name_kw (ld_glob I hg hC ?_ hdb)
  exact PySem.W.callWith_K0 I.kIn M.kp (run_makeS (E := WE W) (us := []) (vs := []) M F hr hb (passAt tk σ) I .nil fun x dx hx hd ne => make_goW (M1 := M0) (S1 := S) (xs := []) (vs := []) hC rh rfl p x dx hx hd ne)
end
end Dn

end
section
set_option Elab.async false
set_option linter.all false
set_option maxRecDepth 100000
set_option maxHeartbeats 4000000
/-! A def that may raise; raise. -/
namespace Dn
open PySem PySem.Spec PyProof.Rows L2
variable [Tb]
/-- a def's wish -/
abbrev WD (E : XK) : WX := fun cls d _ H => E cls d H
section
variable {P : Program} {w : World} {K : PySem.W.Frag} {mg : Str → Option Value} {base : Heap}
theorem fn_okX {x qual : Str} {params : Arguments} {body : List Stmt} {scope : Scope} {f : Addr} {fd : FuncData} {N ps : List Str} {k np n : Nat} {d : DS} (F : FunD K x qual params body scope [] [] f fd) (S : FnScope N ps scope) (hp : ps.length = np) (hn : N.length = n)
    (hb : ∀ (cdv : Value) (A : Around) (outer : List Env) (s : Shared) (H : Hp) (E : XK) (M0 : Mp), Room k (A.deeper (envOfC qual scope s.heap.objs.size f cdv)) →
      Takes (cxOf (L2.CX P w) P w K mg base N qual scope f cdv A outer s H E) (WD E) →
      PassesOwn (model P w) (A.deeper (envOfC qual scope s.heap.objs.size f cdv)) (envOfC qual scope s.heap.objs.size f cdv) (cxOf (L2.CX P w) P w K mg base N qual scope f cdv A outer s H E).xe →
      SSs (cxOf (L2.CX P w) P w K mg base N qual scope f cdv A outer s H E) M0 H (WD E) body d) :
    FnOk P w K mg base (L2.CX P w) (k + 1) f fd ps (spD (gk K mg) (fnD np n d)) := by
  have len : ∀ {vs : List V} {M : Mp} {ds : List D} {St : Store} {H : Hp} {Q : VK} {E : XK}, RelDs (gk K mg) M ds vs → Post (gk K mg) (RD (gk K mg)) (fun cls dx _ H => E cls dx H) M H [] (fnD np n d ds St) Q → ds.length = np := fun {vs M ds St H Q E} _ p => by
    unfold fnD at p
    split at p
    · assumption
    · exact p.elim
  refine F.ok S (fun vs H Q E h => ?_) fun cdv A outer s H vs Q E hr h => ?_
  · obtain ⟨M, ds, St, rd, rh, p⟩ := h
    rw [hp, ← len rd p, rd.len]
  · obtain ⟨M, ds, St, rd, rh, p⟩ := h
    have hl := len rd p
    refine ⟨_, hb cdv A outer s H E M hr (takes_of rfl rfl rfl rfl) (passes_of rfl), M, ds.map Sl.val ++ List.replicate (n - np) Sl.un, St, ⟨⟨?_, fun i z q => ?_, fun i j xs ys a q1 => ?_⟩, rh, Ext.refl, fun i xs a q1 => ?_⟩, ?_⟩
    · have pre : ps.length ≤ N.length := by
        have := congrArg List.length S.pre
        rw [List.length_take] at this
        omega
      unfold L2.start
      simp only [List.length_append, List.length_map, List.length_replicate]
      rw [← rd.len]
      omega
    · unfold L2.start
      by_cases hi : i < ds.length
      · rw [List.getElem?_append_left (by simpa using hi), List.getElem?_map] at q
        obtain ⟨dx, hdx⟩ : ∃ dx, ds[i]? = some dx := ⟨ds[i], by simp [hi]⟩
        rw [hdx] at q
        cases q
        obtain ⟨v, hv, rv⟩ := rd.get hdx
        refine ⟨some v, ?_, v, rfl, rv⟩
        rw [List.getElem?_append_left (by simpa using (rd.len ▸ hi)), List.getElem?_map, hv]
        rfl
      · rw [List.getElem?_append_right (by simpa using hi)] at q
        rw [List.getElem?_replicate] at q
        split at q
        · rename_i hj
          cases q
          refine ⟨none, ?_, trivial⟩
          rw [List.getElem?_append_right (by simpa using (rd.len ▸ Nat.le_of_not_lt hi)), List.getElem?_replicate, if_pos (by
            simp only [List.length_map] at hj ⊢
            rw [← rd.len]
            omega)]
        · cases q
    · exfalso
      have := List.mem_of_getElem? q1
      simp at this
    · exfalso
      have := List.mem_of_getElem? q1
      simp at this
    · unfold fnD at p
      rw [if_pos hl] at p
      cases q : d (ds.map Sl.val ++ List.replicate (n - np) Sl.un) St with
      | next r S1 => rw [q] at p; exact fun M1 s1 H1 w1 l1 => p M1 .non H1 w1.ext w1.heap rfl
      | ret v r S1 => rw [q] at p; exact fun M1 y s1 H1 w1 l1 rv => p M1 y H1 w1.ext w1.heap rv
      | brk r S1 => rw [q] at p; exact p.elim
      | cont r S1 => rw [q] at p; exact p.elim
      | exc c fs r S1 => rw [q] at p; exact fun M1 s1 H1 C dx w1 l1 g x => p M1 H1 C dx w1.ext w1.heap g x
      | bad => rw [q] at p; exact p.elim
/-- the law's entry: nothing is there but the script and the tables -/
theorem law_spX {m : Fn} (h : ∀ ns : List Int, ns.length ≤ 63 → ∃ S, m [.lst (ns.map D.int)] [] = .ok (.bl true) S) (H : Hp) (a : Addr) (ns : List Int) (hl : ns.length ≤ 63) (hT : LamX.Tabs Tb.T H) (hS : SqL K H a (ns.map V.int)) :
    spD (gk K mg) m [.ref a] H (fun v _ => v = .bl true) fun _ _ _ => False := law_sp h H a ns hl hT hS
end
/-! ### raise -/
def sRaise (c : Str) : DS := fun r S => .exc c [] r S
/-- what an exception class without an own __init__ must have -/
structure Exc0 (K : PySem.W.Frag) (C : Addr) : Prop where
  q : PySem.W.excIn K C He.veBase "ValueError.__new__" = true
  kC : PySem.W.keepIn K (.ref C) = true
  r1 : PySem.W.subIn K (.ref C) (.type "BaseException") = some true
  r2 : PySem.W.typeIn K (.ref C) = some (.type "type")
omit [Tb] in
theorem exc0_of {K : PySem.W.Frag} {C : Addr} (h : PySem.W.excIn K C He.veBase "ValueError.__new__" = true ∧ PySem.W.keepIn K (.ref C) = true ∧ PySem.W.subIn K (.ref C) (.type "BaseException") = some true ∧ PySem.W.typeIn K (.ref C) = some (.type "type")) : Exc0 K C := ⟨h.1, h.2.1, h.2.2.1, h.2.2.2⟩
section
variable {X : Cx} {M0 : Mp} {H0 : Hp} {W : WX} {C : Addr} {x : Str} {p p2 pos : Pos}
theorem pmk_own0 {bmB : List Value} {B newId initId : String} (F : ExcBaseFacts B newId initId bmB) (q : PySem.W.excIn X.K C bmB newId = true) (gC : X.mg x = some (.ref C)) (kC : PySem.W.keepIn X.K (.ref C) = true) (r : Raises X (.ref C)) (hg : Gl X x)
    (hdb : (x == ("__debug__" : Str)) = false := by decide) : PMk X (.Call (.Name x p) [] [] pos) (fun _ H Q => Q (.ref C) none H) := by
  intro pins s σ H Q I h
  refine wpAny_Call_Name_kw (ld_glob I hg gC ?_ hdb)
  refine PySem.W.callWith_K0 I.kIn kC ?_
  show wpAny _ _ (call (.ref C) []) _ _ _
  obtain ⟨bm, N, nm, qn, bs, hdct, sn, sub, ab, col, dd, k0, k1, k2, k3, k5, mN, hC, hN, hni, T⟩ := exc_obj I.kIn q
  refine wpAny_call_exc_subT F T hC hN hni (fun h' e hm => ?_) (by show 0 ≤ sizeLine; omega)
  exact mk_of I hm r h (I.hok.gone hm.new)
theorem ss_raise (hc : X.calm = true) (tk : Takes X W) (T : Exc0 X.K C) (gC : X.mg x = some (.ref C)) (hg : Gl X x) (hdb : (x == ("__debug__" : Str)) = false := by decide) :
    SS X M0 H0 W (.Raise (some (.Call (.Name x p) [] [] p2)) none pos) (sRaise x) := by
  refine (ps_raise hc tk (pmk_own0 PySem.F.excBase_ValueError T.q gC T.kC (raises_own T.r1 T.r2) hg hdb)).dimp ?_
  rintro D s H ⟨M, r, S, w, pp⟩
  exact pp M s H C none w Le.refl gC (.inl ⟨rfl, rfl⟩)
end
end Dn

end
section
set_option Elab.async false
set_option linter.all false
set_option maxRecDepth 100000
set_option maxHeartbeats 4000000
/-! try with several clauses, named or not. -/
namespace L2
open PySem PySem.Spec PyProof.Rows
/-- the ends of a suite whose name goes -/
def endsN (oi : Option Nat) (D : Ends) : Ends := match oi with
  | none => D
  | some i => { nx := fun σ' H' => D.nx (σ'.set i none) H', rt := D.rt, bk := fun σ' H' => D.bk (σ'.set i none) H', ct := fun σ' H' => D.ct (σ'.set i none) H' }
def slotN (oi : Option Nat) (a : Addr) (σ : St) : St := match oi with
  | none => σ
  | some i => σ.set i (some (.ref a))
abbrev HdT := Value × Option Nat × (Addr → Value → Option Addr → TS)
def wTrys (K : PySem.W.Frag) (Wout : WX) (D : Ends) : List HdT → WX
  | [] => Wout
  | (c, oi, ts) :: r => fun cls d σ H => ∃ b, PySem.W.exmOne K cls c = some b ∧ (b = true → ∀ a, H a = none → ts a cls d (endsN oi D) (slotN oi a σ) H) ∧ (b = false → wTrys K Wout D r cls d σ H)
inductive HdsN (X : Cx) : List ExceptHandler → List HdT → Prop
  | nil : HdsN X [] []
  | cons {x : Str} {c : Value} {ts : Addr → Value → Option Addr → TS} {b₀ : Stmt} {suite : List Stmt} {np pos' : Pos} {hds : List ExceptHandler} {l : List HdT} (hc : Names X x c)
      (hsu : ∀ (a : Addr) (oe : Obj) (cls : Value) (d : Option Addr) (pn : List (Addr × Obj)), Zc cls d oe → (∃ vs, oe.data = .fields vs) → PSs (X.suite a ((a, oe) :: pn)) (b₀ :: suite) (ts a cls d)) (r : HdsN X hds l) :
      HdsN X (.ExceptHandler (some (.Name x np)) none (b₀ :: suite) pos' :: hds) ((c, none, ts) :: l)
  | named {x n : Str} {c : Value} {i : Nat} {ts : Addr → Value → Option Addr → TS} {b₀ : Stmt} {suite : List Stmt} {np pos' : Pos} {hds : List ExceptHandler} {l : List HdT} (hi : X.N[i]? = some n) (hln : X.env.kindOf n = some .local) (hc : Names X x c)
      (hsu : ∀ (a : Addr) (oe : Obj) (cls : Value) (d : Option Addr) (pn : List (Addr × Obj)), Zc cls d oe → (∃ vs, oe.data = .fields vs) → PSs (X.suite a ((a, oe) :: pn)) (b₀ :: suite) (ts a cls d)) (r : HdsN X hds l) :
      HdsN X (.ExceptHandler (some (.Name x np)) (some n) (b₀ :: suite) pos' :: hds) ((c, some i, ts) :: l)
section
variable {X : Cx} {body : List Stmt} {h₀ : ExceptHandler} {hds : List ExceptHandler} {l : List HdT} {pos : Pos} {tb : WX → TS} {Wout : WX}
theorem ps_trys (hs : X.stack = X.env :: X.outer) (hf : X.env.frame = some X.env.locals) (hN : X.N.Nodup) (tk : Takes X Wout)
    (hb : ∀ (W : WX) (pn : List (Addr × Obj)) (xe : Value → Shared → Prop), Takes (X.tr pn xe) W → PassesOwn (model X.prog X.w) X.A X.env xe → PSs (X.tr pn xe) body (tb W))
    (hh : HdsN X (h₀ :: hds) l) : PS X (.Try body (h₀ :: hds) [] [] pos) (fun D σ H => tb (wTrys X.K Wout D l) D σ H) := by
  refine ⟨fun pins s σ H D I h => ?_⟩
  have ok := I.ok
  have hfr : X.A.frames = some (X.env :: X.outer) := by rw [ok.frames, hs]
  refine wpAny_Try_except ?_
  refine wpAny_mono ((hb (wTrys X.K Wout D l) (X.pn ++ pins) (fun e s₁ => wpAny (model X.prog X.w) X.A (noteFrame e X.env) (fun _ s₂ => wpAny (model X.prog X.w) X.A (setFlight e none) (fun _ s₃ =>
    wpAny (model X.prog X.w) X.A (handleBy e X.env (h₀ :: hds)) (SP X pins D) X.xe s₃) X.xe s₂) X.xe s₁) (fun u s' xx => ?_) PassesOwn.looking).run [] s σ H D (I.toTry _) h) (fun f s1 hsp => ?_) (fun e s1 he => he)
  · -- the catch
    obtain ⟨a, B, sI, pins', σ', H', cls, d, rfl, J', nb, up, sky, na, os, ag, w⟩ := xx
    have J : Inv X pins σ' H' sI := J'.ofTry ok
    have sky' : Sky B (X.env :: X.outer) a (Zc cls d) X.env.locals s'.heap := by rw [← hs]; exact sky
    show wpAny (model X.prog X.w) X.A (noteFrame (.ref a) X.env) _ _ _
    refine Sky.land Zc.steady hfr hf sky' fun h3 fl3 up3 => ?_
    have J3 : Inv X pins σ' H' { s' with heap := h3 } := J.landed nb fl3.1 (up.trans up3) os ag
    obtain ⟨oe3, vs3, he3, hz3, hd3⟩ := fl3.there
    have notFr : ∀ {h : Heap} {o : Obj} {vs : Array Value}, h.FunFrames B (X.env :: X.outer) → h.get? a = some o → o.data = .fields vs → a ∉ frs (X.env :: X.outer) := fun {h o vs} ff e dd hm => by
      obtain ⟨_, o', e', hnf⟩ := ff.mem hm
      rw [e] at e'; cases e'
      exact hnf _ dd
    have nfr := notFr fl3.2.2.1 he3 hd3
    have nL : a ≠ X.env.locals := fun z => nfr (List.mem_filterMap.mpr ⟨X.env, List.mem_cons_self, by rw [hf, z]⟩)
    have nF : a ∉ X.fs := fun hm => by
      obtain ⟨e, he, q⟩ := List.mem_filterMap.mp hm
      exact nfr (List.mem_filterMap.mpr ⟨e, List.mem_cons_of_mem _ he, q⟩)
    have S3 := J3.suite he3 hd3 na nL nF
    have LT : PySem.W.Looks (model X.prog X.w) h3 (typeOf (.ref a)) cls := fun A Q E s k q => wpAny_typeOf_ref (k _ _ he3) (by rw [hz3.1]; exact q)
    have test : ∀ {x : Str} {c : Value} {np : Pos} {Q : Value → Shared → Prop} {E : Value → Shared → Prop}, Names X x c → Q c { s' with heap := h3 } → wpAny (model X.prog X.w) (X.A.mark (some (.ref a))) (eval (.Name x np) X.env) Q E { s' with heap := h3 } := fun {x c np Q E} hc q => by
      obtain ⟨hg, hdbg, hm | ⟨hm, hv, hnn⟩⟩ := hc
      · exact ld_glob (X := X.suite a ((a, oe3) :: (X.pn ++ pins))) S3 hg hm q hdbg
      · exact ld_blt (X := X.suite a ((a, oe3) :: (X.pn ++ pins))) S3 hg hm hv q hnn hdbg
    have go : ∀ {hds' : List ExceptHandler} {l' : List HdT}, HdsN X hds' l' → wTrys X.K Wout D l' cls d σ' H' →
        wpAny (model X.prog X.w) X.A (handleBy (.ref a) X.env hds') (SP X pins D) X.xe { s' with heap := h3 } := by
      intro hds' l' hk
      induction hk with
      | nil =>
        intro w
        refine wpAny_handleBy_nil ?_
        obtain ⟨k1, k2, k3, oe, vs, T, oT, ts', he, hz, hd, h1, hr⟩ := id fl3
        unfold PySem.passOn
        refine wpAny_bind (wpAny_field he hd h1 ?_)
        rw [if_neg (show ¬ ((Value.ref T == Value.none) = true) from by simp)]
        have fin : wpAny (model X.prog X.w) X.A (setFlight (.ref a) X.env.frame) (fun _ s4 => wpAny (model X.prog X.w) X.A (throw (.ref a) : Sem Flow) (SP X pins D) X.xe s4) X.xe { s' with heap := h3 } := by
          rw [hf]
          refine HandSPX.setFlight_upZ fl3 fun h4 hh4 up4 => wpAny_throw (tk _ _ ?_)
          exact ⟨a, B, sI, pins, σ', H', cls, d, rfl, J, nb, (up.trans up3).trans up4, .inr (.inr (by rw [hs]; exact hh4)), na, os, ag, w⟩
        first
          | exact wpAny_bind (wpAny_pure (wpAny_bind fin))
          | exact wpAny_bind fin
      | @cons x c ts b₀ suite np pos' hds2 l2 hc hsu r ih =>
        intro w
        obtain ⟨b, hb1, hyes, hno⟩ := w
        refine wpAny_handleBy_cons (codeAny_handlers_test ?_) (by intro q; cases q)
        have LM := PySem.W.exm_one (M := model X.prog X.w) (J3.kIn) LT hb1
        refine test hc (LM.here ?_)
        cases b with
        | true =>
          refine codeAny_handlers_suite ?_
          refine HandSPX.lands_againZ fl3 fun h4 fl4 up4 => ?_
          have J4 : Inv X pins σ' H' { s' with heap := h4 } := J.landed nb fl4.1 ((up.trans up3).trans up4) os ag
          obtain ⟨oe4, vs4, he4, hz4, hd4⟩ := fl4.there
          have S4 := J4.suite he4 hd4 na nL nF
          refine wpAny_mono ((hsu a oe4 cls d (X.pn ++ pins) hz4 ⟨_, hd4⟩).run [] _ _ H' _ S4 (hyes rfl a na)) (fun f s6 hsp => ?_) (fun _ _ z => False.elim z)
          cases f with
          | next =>
            obtain ⟨σ6, H6, S6, q6⟩ := hsp
            exact ⟨_, _, S6.unsuite ok, q6⟩
          | brk =>
            obtain ⟨σ6, H6, S6, q6⟩ := hsp
            exact ⟨_, _, S6.unsuite ok, q6⟩
          | cont =>
            obtain ⟨σ6, H6, S6, q6⟩ := hsp
            exact ⟨_, _, S6.unsuite ok, q6⟩
          | ret u =>
            obtain ⟨v6, σ6, H6, S6, r6, q6⟩ := hsp
            exact ⟨_, _, _, S6.unsuite ok, r6, q6⟩
        | false =>
          show wpAny _ X.A (handleBy (.ref a) X.env hds2) _ _ _
          exact ih (hno rfl)
      | @named x n c i ts b₀ suite np pos' hds2 l2 hi hln hc hsu r ih =>
        intro w
        obtain ⟨b, hb1, hyes, hno⟩ := w
        refine wpAny_handleBy_cons (codeAny_handlers_test ?_) (by intro q; cases q)
        have LM := PySem.W.exm_one (M := model X.prog X.w) (J3.kIn) LT hb1
        refine test hc (LM.here ?_)
        cases b with
        | true =>
          have hloc : Loc X.env.scope n := .inl hln
          refine codeAny_handlers_suite_as ?_
          refine HandSPX.lands_againZ fl3 fun h4 fl4 up4 => ?_
          have J4 : Inv X pins σ' H' { s' with heap := h4 } := J.landed nb fl4.1 ((up.trans up3).trans up4) os ag
          obtain ⟨oe4, vs4, he4, hz4, hd4⟩ := fl4.there
          have S4 := J4.suite he4 hd4 na nL nF
          refine store_ok (X := X.suite a ((a, oe4) :: (X.pn ++ pins))) (v := .ref a) S4 hN hi hloc rfl (fun s5 S5 => ?_) (.inr hln)
          refine wpAny_mono ((hsu a oe4 cls d (X.pn ++ pins) hz4 ⟨_, hd4⟩).run [] s5 _ H' _ S5 (hyes rfl a na)) (fun f s6 hsp => ?_) (fun _ _ z => False.elim z)
          have end_ : ∀ {σ6 : St} {H6 : Hp} {Q : Shared → Prop}, Inv (X.suite a ((a, oe4) :: (X.pn ++ pins))) [] σ6 H6 s6 → (∀ s7, Inv X pins (σ6.set i none) H6 s7 → Q s7) →
              wpAny (model X.prog X.w) X.A (do bindName X.env n .none; unbindBehindTheSuite X.env n pos') (fun _ s7 => Q s7) X.xe s6 := fun {σ6 H6 Q} S6 hq => gone_ok (S6.unsuite ok) hN hi hln hq
          cases f with
          | next =>
            obtain ⟨σ6, H6, S6, q6⟩ := hsp
            exact end_ S6 fun s7 J7 => ⟨_, _, J7, q6⟩
          | brk =>
            obtain ⟨σ6, H6, S6, q6⟩ := hsp
            exact end_ S6 fun s7 J7 => ⟨_, _, J7, q6⟩
          | cont =>
            obtain ⟨σ6, H6, S6, q6⟩ := hsp
            exact end_ S6 fun s7 J7 => ⟨_, _, J7, q6⟩
          | ret u =>
            obtain ⟨v6, σ6, H6, S6, r6, q6⟩ := hsp
            exact end_ S6 fun s7 J7 => ⟨_, _, _, J7, r6, q6⟩
        | false =>
          show wpAny _ X.A (handleBy (.ref a) X.env hds2) _ _ _
          exact ih (hno rfl)
    exact go hh w
  · cases f with
    | next =>
      obtain ⟨σ', H', J', q⟩ := hsp
      exact wpAny_execs_nil ⟨σ', H', J'.ofTry ok, q⟩
    | brk =>
      obtain ⟨σ', H', J', q⟩ := hsp
      exact ⟨σ', H', J'.ofTry ok, q⟩
    | cont =>
      obtain ⟨σ', H', J', q⟩ := hsp
      exact ⟨σ', H', J'.ofTry ok, q⟩
    | ret u =>
      obtain ⟨v, σ', H', J', r, q⟩ := hsp
      exact ⟨v, σ', H', J'.ofTry ok, r, q⟩
end
end L2

end
section
set_option Elab.async false
set_option linter.all false
set_option maxRecDepth 100000
set_option maxHeartbeats 4000000
/-! try: what it is worth, its rule; what is asked of a caught exception. -/
namespace Dn
open PySem PySem.Spec PyProof.Rows L2
variable [Tb]
/-- a name without an exception in it -/
def Sl.deexc : Sl → Sl
  | .exc _ _ => .un
  | x => x
def deexc (r : Rho) : Rho := r.map Sl.deexc
def clr (oi : Option Nat) (r : Rho) : Rho := match oi with
  | none => r
  | some i => r.set i .un
def unb (oi : Option Nat) : Sr → Sr
  | .next r S => .next (deexc (clr oi r)) S
  | .ret d r S => .ret d (deexc r) S
  | .brk r S => .brk (deexc (clr oi r)) S
  | .cont r S => .cont (deexc (clr oi r)) S
  | .exc _ _ _ _ => .bad
  | .bad => .bad
/-- an except clause: the classes that it catches, others that it doesn't, its name, its suite -/
abbrev HdD := List Str × List Str × Option Nat × DS
def held (oi : Option Nat) (c : Str) (fs : List (Str × D)) (r : Rho) : Rho := match oi with
  | none => deexc r
  | some i => (deexc r).set i (.exc c fs)
def handleD : List HdD → Str → List (Str × D) → Rho → Store → Sr
  | [], c, fs, r, S => .exc c fs r S
  | (yes, no, oi, d) :: hs, c, fs, r, S => if c ∈ yes then unb oi (d (held oi c fs r) S) else if c ∈ no then handleD hs c fs r S else .bad
def sTry (b : DS) (hs : List HdD) : DS := fun r S => match b (deexc r) S with
  | .next r S => .next (deexc r) S
  | .ret d r S => .ret d (deexc r) S
  | .brk r S => .brk (deexc r) S
  | .cont r S => .cont (deexc r) S
  | .exc c fs r S => handleD hs c fs (deexc r) S
  | .bad => .bad
/-- isinstance(name, C) of a caught exception -/
def eIsExc (i : Nat) (yes no : List Str) : DE := fun r S => match r[i]? with
  | some (.exc c _) => if c ∈ yes then .ok (.bl true) S else if c ∈ no then .ok (.bl false) S else .bad
  | _ => .bad
/-- name.f of a caught exception -/
def eExcF (i : Nat) (cs : List Str) (f : Str) : DE := fun r S => match r[i]? with
  | some (.exc c fs) => if c ∈ cs then Rs.ofO (fs.lookup f) S else .bad
  | _ => .bad
section
variable {G : Gx} {pn : List (Addr × Obj)} {M M0 : Mp} {H H0 : Hp} {r : Rho} {s : L2.St} {S : Store}
theorem deexc_get {i : Nat} {x : Sl} (h : (deexc r)[i]? = some x) : ∃ y, r[i]? = some y ∧ x = y.deexc := by
  unfold deexc at h
  rw [List.getElem?_map] at h
  cases q : r[i]? with
  | none => rw [q] at h; cases h
  | some y => rw [q] at h; cases h; exact ⟨y, rfl, rfl⟩
theorem deexc_own {i : Nat} {xs : List D} (h : (deexc r)[i]? = some (.own xs)) : r[i]? = some (.own xs) := by
  obtain ⟨y, h1, h2⟩ := deexc_get h
  cases y <;> cases h2
  exact h1
theorem envR_de (h : EnvR G M H r s) : EnvR (G.at_ pn G.lam) M H (deexc r) s := by
  refine ⟨by unfold deexc; rw [List.length_map]; exact h.len, fun i x q => ?_, fun i j xs ys a q1 q2 => h.apt i j xs ys a (deexc_own q1) (deexc_own q2)⟩
  obtain ⟨y, h1, rfl⟩ := deexc_get q
  obtain ⟨v, h2, h3⟩ := h.sl i y h1
  refine ⟨v, h2, ?_⟩
  cases y with
  | un => trivial
  | val d => obtain ⟨x, e1, e2⟩ := h3; exact ⟨x, e1, e2.g⟩
  | own ds => obtain ⟨a, vs, e1, e2, e3, e4, e5⟩ := h3; exact ⟨a, vs, e1, e2, e3.g, e4, e5⟩
  | ownd _ _ => exact h3
  | exc _ _ => trivial
  | lam => exact h3
theorem wst_de (h : Wst G M0 H0 M r S s H) : Wst (G.at_ pn G.lam) M0 H0 M (deexc r) S s H := ⟨envR_de h.env, h.heap.g, h.ext, fun i xs a q => h.own i xs a (deexc_own q)⟩
theorem wst_put {i : Nat} {x : Sl} {v : Option V} (hx : ∀ xs, x ≠ .own xs) (k : SlotR G M H x v) (h : Wst G M0 H0 M r S s H) : Wst G M0 H0 M (r.set i x) S (s.set i v) H := by
  have ow : ∀ {j : Nat} {xs : List D}, (r.set i x)[j]? = some (.own xs) → j ≠ i ∧ r[j]? = some (.own xs) := fun {j xs} q => by
    by_cases e : j = i
    · subst e
      by_cases hl : j < r.length
      · rw [List.getElem?_set_self hl] at q
        cases q
        exact absurd rfl (hx xs)
      · rw [List.getElem?_eq_none (by rw [List.length_set]; omega)] at q
        cases q
    · rw [List.getElem?_set_ne (Ne.symm e)] at q
      exact ⟨e, q⟩
  refine ⟨⟨by rw [List.length_set, List.length_set]; exact h.env.len, fun j y q => ?_, fun j k xs ys a q1 q2 q3 q4 => ?_⟩, h.heap, h.ext, fun j xs a q1 q2 => ?_⟩
  · by_cases e : j = i
    · subst e
      by_cases hl : j < r.length
      · rw [List.getElem?_set_self hl] at q
        cases q
        exact ⟨v, List.getElem?_set_self (by rw [← h.env.len]; exact hl), k⟩
      · rw [List.getElem?_eq_none (by rw [List.length_set]; omega)] at q
        cases q
    · rw [List.getElem?_set_ne (Ne.symm e)] at q ⊢
      exact h.env.sl j y q
  · obtain ⟨e1, o1⟩ := ow q1
    obtain ⟨e2, o2⟩ := ow q2
    rw [List.getElem?_set_ne (Ne.symm e1)] at q3
    rw [List.getElem?_set_ne (Ne.symm e2)] at q4
    exact h.env.apt j k xs ys a o1 o2 q3 q4
  · obtain ⟨e1, o1⟩ := ow q1
    rw [List.getElem?_set_ne (Ne.symm e1)] at q2
    exact h.own j xs a o1 q2
end
section
variable {X : Cx} {M0 : Mp} {H0 : Hp}
/-- a suite's ends -/
theorem unb_post {G : Gx} {pn : List (Addr × Obj)} {W : WX} {M1 : Mp} {oi : Option Nat} {x : Sr} {D : Ends} (h : PostS G M0 H0 W M1 (unb oi x) D) : PostS (G.at_ pn G.lam) M0 H0 WN M1 x (endsN oi D) := by
  have back : ∀ {M : Mp} {r : Rho} {S : Store} {s : L2.St} {H : Hp}, Wst (G.at_ pn G.lam) M0 H0 M r S s H → Wst G M0 H0 M (deexc r) S s H := fun w => wst_de (G := G.at_ pn G.lam) (pn := G.pn) w
  have clr_ : ∀ {M : Mp} {r : Rho} {S : Store} {i : Nat} {s : L2.St} {H : Hp}, Wst (G.at_ pn G.lam) M0 H0 M r S s H → Wst G M0 H0 M (deexc (r.set i .un)) S (s.set i none) H := fun w => back (wst_put (x := .un) (v := none) (fun _ z => by cases z) trivial w)
  cases x with
  | next r S =>
    cases oi with
    | none => exact fun M s H w l => h M s H (back w) l
    | some i => exact fun M s H w l => h M (s.set i none) H (clr_ w) l
  | ret d r S =>
    cases oi with
    | none => exact fun M v s H w l rd => h M v s H (back w) l (RelD.g (G := G.at_ pn G.lam) (pn := G.pn) (lm := G.lam) rd)
    | some i => exact fun M v s H w l rd => h M v s H (back w) l (RelD.g (G := G.at_ pn G.lam) (pn := G.pn) (lm := G.lam) rd)
  | brk r S =>
    cases oi with
    | none => exact fun M s H w l => h M s H (back w) l
    | some i => exact fun M s H w l => h M (s.set i none) H (clr_ w) l
  | cont r S =>
    cases oi with
    | none => exact fun M s H w l => h M s H (back w) l
    | some i => exact fun M s H w l => h M (s.set i none) H (clr_ w) l
  | exc c fs r S => exact h.elim
  | bad => exact h
/-- what the clauses are worth -/
inductive HdsD (X : Cx) (M0 : Mp) (H0 : Hp) : List ExceptHandler → List HdD → Prop
  | nil : HdsD X M0 H0 [] []
  | cons {x : Str} {cv : Value} {yes no : List Str} {b₀ : Stmt} {suite : List Stmt} {np pos' : Pos} {hds : List ExceptHandler} {l : List HdD} {ds : DS} (hc : Names X x cv)
      (hy : ∀ c ∈ yes, ∀ C, X.mg c = some (.ref C) → PySem.W.exmOne X.K (.ref C) cv = some true) (hn : ∀ c ∈ no, ∀ C, X.mg c = some (.ref C) → PySem.W.exmOne X.K (.ref C) cv = some false)
      (hsu : ∀ (a : Addr) (oe : Obj) (pn : List (Addr × Obj)), SSs (X.suite a ((a, oe) :: pn)) M0 H0 WN (b₀ :: suite) ds) (r : HdsD X M0 H0 hds l) :
      HdsD X M0 H0 (.ExceptHandler (some (.Name x np)) none (b₀ :: suite) pos' :: hds) ((yes, no, none, ds) :: l)
  | named {x n : Str} {cv : Value} {i : Nat} {yes no : List Str} {b₀ : Stmt} {suite : List Stmt} {np pos' : Pos} {hds : List ExceptHandler} {l : List HdD} {ds : DS} (hi : X.N[i]? = some n) (hln : X.env.kindOf n = some .local) (hc : Names X x cv)
      (hy : ∀ c ∈ yes, ∀ C, X.mg c = some (.ref C) → PySem.W.exmOne X.K (.ref C) cv = some true) (hn : ∀ c ∈ no, ∀ C, X.mg c = some (.ref C) → PySem.W.exmOne X.K (.ref C) cv = some false)
      (hsu : ∀ (a : Addr) (oe : Obj) (pn : List (Addr × Obj)), SSs (X.suite a ((a, oe) :: pn)) M0 H0 WN (b₀ :: suite) ds) (r : HdsD X M0 H0 hds l) :
      HdsD X M0 H0 (.ExceptHandler (some (.Name x np)) (some n) (b₀ :: suite) pos' :: hds) ((yes, no, some i, ds) :: l)
/-- a suite's reading, before its pin is known -/
def tSu (X : Cx) (M0 : Mp) (H0 : Hp) (ds : DS) (a : Addr) (cls : Value) (d : Option Addr) : TS := fun D σ H => ∀ (oe : Obj) (pn : List (Addr × Obj)), Zc cls d oe → (∃ us, oe.data = .fields us) → tS ((gx X).at_ ((a, oe) :: pn) Tb.lam) M0 H0 WN ds D σ H
theorem hds_of {hds : List ExceptHandler} {l : List HdD} (h : HdsD X M0 H0 hds l) : ∃ lt, HdsN X hds lt ∧ ∀ (c : Str) (fs : List (Str × D)) (r : Rho) (S : Store) (W : WX) (D : Ends) (M M' : Mp) (s : L2.St) (H : Hp) (C : Addr) (dx : Option Addr),
    PostS (gx X) M0 H0 W M (handleD l c fs r S) D → Wst (gx X) M0 H0 M' r S s H → Le M M' → X.mg c = some (.ref C) → ExcR (gx X) M' fs dx H → wTrys X.K W D lt (.ref C) dx s H := by
  induction h with
  | nil => exact ⟨[], .nil, fun c fs r S W D M M' s H C dx p w l g x => p M' s H C dx w l g x⟩
  | @cons x cv yes no b₀ suite np pos' hds l ds hc hy hn hsu r ih =>
    obtain ⟨lt, h1, h2⟩ := ih
    refine ⟨(cv, none, tSu X M0 H0 ds) :: lt, .cons hc (fun a oe cls d pn hz hf => (hsu a oe pn).dimp fun D s H q => q oe pn hz hf) h1, fun c fs r S W D M M' s H C dx p w l g x => ?_⟩
    unfold handleD at p
    split at p
    · rename_i hcy
      refine ⟨true, hy c hcy C g, fun _ a na oe pn hz hf => ⟨M', held none c fs r, S, wst_de w, PostS.le (unb_post p) l⟩, fun z => by cases z⟩
    · split at p
      · rename_i hcn
        exact ⟨false, hn c hcn C g, (fun z => by cases z), fun _ => h2 c fs r S W D M M' s H C dx p w l g x⟩
      · exact p.elim
  | @named x n cv i yes no b₀ suite np pos' hds l ds hi hln hc hy hn hsu r ih =>
    obtain ⟨lt, h1, h2⟩ := ih
    refine ⟨(cv, some i, tSu X M0 H0 ds) :: lt, .named hi hln hc (fun a oe cls d pn hz hf => (hsu a oe pn).dimp fun D s H q => q oe pn hz hf) h1, fun c fs r S W D M M' s H C dx p w l g x => ?_⟩
    unfold handleD at p
    split at p
    · rename_i hcy
      refine ⟨true, hy c hcy C g, fun _ a na oe pn hz hf => ⟨M', held (some i) c fs r, S, wst_put (x := .exc c fs) (v := some (.ref a)) (fun _ z => by cases z) ⟨a, oe, C, dx, rfl, List.mem_cons_self, hz, hf, g, x.g⟩ (wst_de w), PostS.le (unb_post p) l⟩, fun z => by cases z⟩
    · split at p
      · rename_i hcn
        exact ⟨false, hn c hcn C g, (fun z => by cases z), fun _ => h2 c fs r S W D M M' s H C dx p w l g x⟩
      · exact p.elim
theorem ss_try {W : WX} {body : List Stmt} {h₀ : ExceptHandler} {hds : List ExceptHandler} {l : List HdD} {pos : Pos} {db : DS} (hs : X.stack = X.env :: X.outer) (hf : X.env.frame = some X.env.locals) (hN : X.N.Nodup) (tk : Takes X W)
    (hb : ∀ (W : WX) (pn : List (Addr × Obj)) (xe : Value → Shared → Prop), Takes (X.tr pn xe) W → PassesOwn (model X.prog X.w) X.A X.env xe → SSs (X.tr pn xe) M0 H0 W body db) (hh : HdsD X M0 H0 (h₀ :: hds) l) :
    SS X M0 H0 W (.Try body (h₀ :: hds) [] [] pos) (sTry db l) := by
  obtain ⟨lt, h1, h2⟩ := hds_of hh
  refine (ps_trys (tb := fun W D s H => ∀ pn, tS ((gx X).at_ pn Tb.lam) M0 H0 W db D s H) hs hf hN tk (fun W pn xe tk po => (hb W pn xe tk po).dimp fun D s H q => q pn) h1).dimp ?_
  rintro D s H ⟨M, r, S, w, p⟩ pn
  refine ⟨M, deexc r, S, wst_de w, ?_⟩
  have back : ∀ {M : Mp} {r : Rho} {S : Store} {s : L2.St} {H : Hp}, Wst ((gx X).at_ pn Tb.lam) M0 H0 M r S s H → Wst (gx X) M0 H0 M (deexc r) S s H := fun w => wst_de (G := (gx X).at_ pn Tb.lam) (pn := X.pn) w
  unfold sTry at p
  cases q : db (deexc r) S with
  | next r1 S1 => rw [q] at p; exact fun M1 s1 H1 w1 l1 => p M1 s1 H1 (back w1) l1
  | ret d r1 S1 => rw [q] at p; exact fun M1 v s1 H1 w1 l1 rd => p M1 v s1 H1 (back w1) l1 (RelD.g (G := (gx X).at_ pn Tb.lam) (pn := X.pn) (lm := Tb.lam) rd)
  | brk r1 S1 => rw [q] at p; exact fun M1 s1 H1 w1 l1 => p M1 s1 H1 (back w1) l1
  | cont r1 S1 => rw [q] at p; exact fun M1 s1 H1 w1 l1 => p M1 s1 H1 (back w1) l1
  | exc c fs r1 S1 => rw [q] at p; exact fun M1 s1 H1 C dx w1 l1 g x => h2 c fs (deexc r1) S1 W D M M1 s1 H1 C dx p (back w1) l1 g (ExcR.g (G := (gx X).at_ pn Tb.lam) (pn := X.pn) (lm := Tb.lam) x)
  | bad => rw [q] at p; exact p.elim
end
end Dn

end
section
set_option Elab.async false
set_option linter.all false
set_option maxRecDepth 100000
set_option maxHeartbeats 4000000
/-! isinstance(e, C), e.f of a caught exception, with or without a dict. -/
namespace PySem.W
open PySem PySem.Spec PySem.Calls PyProof.Rows
section
variable {prog : Program} {w : World} {A : Around} {E : Value → Shared → Prop} {s : Shared} {K : Frag} {x D : Addr} {ox : Obj} {od : Option Obj}
theorem findObj_dataO {C : Addr} {name : Str} {a g : Value} (hc : (clsIn K C).isSome = true) (ha : findIn K (.ref C) name = some (some a)) (hg : specialIn K a "__get__" = some (some g)) (ht : takesIn K a = some true) : findObj K C od name = some (.bind g a) := by
  obtain ⟨cd, hc⟩ := Option.isSome_iff_exists.mp hc
  unfold findObj
  rw [hc, Option.bind_some, ha, Option.bind_some]
  simp [hg, ht]
theorem kin_classO {Q : Option Value → Shared → Prop} (hga : findIn K (.ref D) "__getattribute__" = some (some (.builtin "BaseException.__getattribute__"))) (hgt : findIn K (.ref D) "__getattr__" = some none) (hsub : subIn K (.ref D) (.type "BaseException") = some true)
    (hdct : hasDictIn K D = true) (ha : findIn K (.ref D) "__class__" = some (some (.builtin "object.__class__")))
    (hn : specialIn K (.builtin "object.__class__") "__get__" = some (some (.builtin "getset_descriptor.__get__"))) (htk : takesIn K (.builtin "object.__class__") = some true) (hm : mroIn K D (.type "object") = some true)
    (X : K.In s.heap) (I : InstAt s.heap x ox D od) (h : Q (some (.ref D)) { s with toks := s.toks + 1 }) : wpAny (model prog w) A (getAttr? (.ref x) "__class__") Q E s := by
  have hf : findObj K D od "__class__" = some (.bind (.builtin "getset_descriptor.__get__") (.builtin "object.__class__")) := findObj_dataO (by obtain ⟨cd, hc, _⟩ := any_some hdct; rw [hc]; rfl) ha hn htk
  obtain ⟨hp, g, d, t, os⟩ := s
  have L0 := I.type (M := model prog w)
  have L1 := looks_findIn (M := model prog w) X hga
  have L2 := looks_findIn (M := model prog w) X hgt
  have L3 := looks_find (M := model prog w) X I hf
  have sub : Looks (model prog w) hp (isInstance (.ref x) (.type "BaseException")) true := L0.andThen (looks_subIn X hsub)
  have hx0 : (false && onTheHeap (Value.builtin "BaseException.__getattribute__")) = false := rfl
  have hx2 : (Value.builtin "BaseException.__getattribute__" == Value.builtin "object.__getattribute__") = false := by decide +kernel
  have hx1 : (onTheHeap (Value.ref D) && Value.builtin "BaseException.__getattribute__" == Value.builtin "object.__getattribute__") = false := by rw [hx2]; rfl
  unfold getAttr? getAttrBy? getAttrBy
  refine wpAny_bind (wpAny_mkText (wpAny_bind (wpAny_attempt (wpAny_holding (wpAny_bind (L0.at (wpAny_bind (L1.at ?_))))))))
  show wpAny _ _ (if (onTheHeap (Value.ref D) && Value.builtin "BaseException.__getattribute__" == Value.builtin "object.__getattribute__") = true then _ else _) _ _ _
  rw [hx1, if_neg Bool.false_ne_true]
  unfold getAttrByItsOwn hookBefore
  refine wpAny_bind ?_
  rw [if_pos (show onTheHeap (Value.ref D) = true from rfl)]
  refine L2.at ?_
  refine wpAny_bind (wpAny_attempt (wpAny_holding ?_))
  unfold callGetattribute
  rw [hx0, if_neg Bool.false_ne_true]
  unfold boundAndCalled
  rw [PySem.F.excAttr_ValueError.ga.bind (.ref x)]
  refine wpAny_bind (wpAny_pure ?_)
  show wpAny _ _ (call (.builtin "BaseException.__getattribute__") [.ref x, .str "__class__" t]) _ _ _
  refine wpAny_call (codeAny_call_builtin PySem.F.excAttr_ValueError.ga.plain PySem.F.entry_bexc_ga ?_)
  refine @check_slot (model prog w) _ _ ⟨hp, g, d, t + 1, os⟩ "BaseException.__getattribute__" "BaseException" "__getattribute__" (.ref x) [.str "__class__" t] [] _ (by decide +kernel) (by decide +kernel) sub (PySem.F.args_bexc_ga (.ref x) (.str "__class__" t)) ?_
  unfold Builtin.«object.__getattribute__»
  refine wpAny_bind (wpAny_of_eq (a := ((Value.ref x : Value), [Value.str "__class__" t])) (by first | rfl | (simp only [slotArgs]; rfl)) ?_)
  refine wpAny_bind (wpAny_pure (wpAny_bind (L0.at (wpAny_bind (L3.at ?_)))))
  show wpAny _ _ (holding [Value.builtin "object.__class__"] (call (.builtin "getset_descriptor.__get__") [.builtin "object.__class__", .ref x, .ref D]) >>= ret) _ _ _
  refine wpAny_bind (wpAny_holding (wpAny_call (class_get (s := ⟨hp, g, d, t + 1, os⟩) (ox := ox) (od := od) X I hm ?_)))
  refine wpAny_pure ?_
  show wpAny _ _ (handedOut (.ref D)) _ _ _
  rw [handedOut_of (v := .ref D) rfl]
  first
    | exact wpAny_pure (wpAny_pure h)
    | exact wpAny_pure h
    | exact wpAny_pure (wpAny_bind (wpAny_pure (wpAny_pure h)))
theorem kitx_excO (hga : findIn K (.ref D) "__getattribute__" = some (some (.builtin "BaseException.__getattribute__"))) (hgt : findIn K (.ref D) "__getattr__" = some none) (hsub : subIn K (.ref D) (.type "BaseException") = some true) (hdct : hasDictIn K D = true) (ha : findIn K (.ref D) "__class__" = some (some (.builtin "object.__class__")))
    (hn : specialIn K (.builtin "object.__class__") "__get__" = some (some (.builtin "getset_descriptor.__get__"))) (htk : takesIn K (.builtin "object.__class__") = some true) (hm : mroIn K D (.type "object") = some true) :
    KitX K (.ref x) (.ref D) (fun h => InstAt h x ox D od) where
  ty := fun _ _ _ I => I.type
  it := fun _ _ X _ => by
    obtain ⟨cdD, hcD, _⟩ := any_some hdct
    unfold clsIn at hcD
    split at hcD
    · rename_i c' d' cd' sl' ho
      intro A' Q' E' s' k q
      unfold isType loadHead
      exact wpAny_bind (wpAny_loadPart (k _ _ (X _ _ ho)) (wpAny_pure q))
    · cases hcD
  ne := fun h tp dd its n sl X htp => by
    obtain ⟨cdD, hcD, _⟩ := any_some hdct
    refine Bool.eq_false_iff.mpr fun q => ?_
    have e : D = tp := Value.ref.inj (beq_iff_eq.mp q)
    subst e
    unfold clsIn at hcD
    split at hcD
    · rename_i c' d' cd' sl' ho
      have z := (X _ _ ho).symm.trans htp
      cases z
    · cases hcD
  ca := fun X I k => kin_classO hga hgt hsub hdct ha hn htk hm X I k
end
end PySem.W
namespace Dn
open PySem PySem.Spec PyProof.Rows L2
variable [Tb]
/-- isinstance(e, c), e a pinned exception -/
def rIsP (X : Cx) : List V → Hp → VK → Prop := fun xs H Q => ∃ (a D : Addr) (oe : Obj) (dx : Option Addr) (c : V) (cv : Value) (b : Bool), (a, oe) ∈ X.pn ∧ ExcC X.K D ∧ Zc (.ref D) dx oe ∧ (∃ us, oe.data = .fields us) ∧ (dx = none ∨ ∃ d fs, dx = some d ∧ H d = some (.xd fs)) ∧
  xs = [.ref a, c] ∧ (∀ u, RelV c u → u = cv) ∧ PySem.W.kitOne X.K (.ref D) cv = some b ∧ Q (.bl b) H
theorem call_isP {X : Cx} : CallR X (.builtin "isinstance") (rIsP X) := by
  intro pins s σ H xs us Q I r h
  obtain ⟨a, D, oe, dx, c, cv, b, hm, C, hz, hf, hdx, rfl, hcv, e, q⟩ := h
  cases r with
  | cons rx rr =>
    cases rr with
    | cons rt rr =>
      cases rr
      cases rx
      have ec := hcv _ rt
      subst ec
      obtain ⟨hget, _⟩ := I.pin (a, oe) (List.mem_append.mpr (.inl hm))
      obtain ⟨vs, hv⟩ := hf
      have J : ∃ od, PySem.W.InstAt s.heap a oe D od := by
        rcases hdx with rfl | ⟨d, fs, rfl, hd⟩
        · refine ⟨none, hget, hz.1, by unfold PySem.W.notCls; rw [hv] <;> rfl, by rw [hz.2]; trivial⟩
        · have hx : ObjOk X.prog X.w H s.heap d (.xd fs) := I.hok d _ hd
          obtain ⟨mA, hns, hr⟩ := hx
          obtain ⟨od, ho, hl⟩ := lookIn_ns hns
          exact ⟨some od, hget, hz.1, by unfold PySem.W.notCls; rw [hv] <;> rfl, by rw [hz.2]; exact ho⟩
      obtain ⟨od, J⟩ := J
      exact PySem.W.kia_one (PySem.W.kitx_excO C.hg C.hk C.hs C.hd C.ha C.hn C.ht C.hm) I.kIn J e (fun z => nomatch z) fun tk => ⟨.bl b, H, I.kept (t' := tk) fun _ _ z => z, rfl, q⟩
section
variable {X : Cx} {W : WX} {e : Expr} {pos : Pos}
theorem se_isExc {i : Nat} {yes no : List Str} {c : V} {cv : Value} (hcv : ∀ u, RelV c u → u = cv) (hx : ∀ x, x ∈ yes ∨ x ∈ no → ∀ C, X.mg x = some (.ref C) → ExcC X.K C)
    (hy : ∀ x ∈ yes, ∀ C, X.mg x = some (.ref C) → PySem.W.kitOne X.K (.ref C) cv = some true) (hn : ∀ x ∈ no, ∀ C, X.mg x = some (.ref C) → PySem.W.kitOne X.K (.ref C) cv = some false)
    (hc : PE X e (tCB (rIsP X) (tCons (tVar i) (tCons (tC c) tNil)))) : SE X W e (eIsExc i yes no) := by
  refine hc.dimp ?_
  rintro s H Q ⟨M, r, S, en, rh, p⟩
  unfold eIsExc at p
  cases q : r[i]? with
  | none => rw [q] at p; exact p.elim
  | some z =>
    rw [q] at p
    obtain ⟨v, h1, h2⟩ := en.sl i z q
    cases z with
    | exc k fs =>
      obtain ⟨a, oe, C, dx, rfl, hm, hz, hf, hg, hxr⟩ := h2
      dsimp only at p
      have hd : dx = none ∨ ∃ d fs, dx = some d ∧ H d = some (.xd fs) := by
        rcases hxr with ⟨_, z⟩ | ⟨d, vfs, z1, z2, _⟩
        · exact .inl z
        · exact .inr ⟨d, vfs, z1, z2⟩
      refine ⟨.ref a, h1, ?_⟩
      split at p
      · rename_i hk
        exact ⟨a, C, oe, dx, c, cv, true, hm, hx k (.inl hk) C hg, hz, hf, hd, rfl, hcv, hy k hk C hg, p M _ H Ext.refl rh rfl⟩
      · split at p
        · rename_i hk
          exact ⟨a, C, oe, dx, c, cv, false, hm, hx k (.inr hk) C hg, hz, hf, hd, rfl, hcv, hn k hk C hg, p M _ H Ext.refl rh rfl⟩
        · exact p.elim
    | un => exact p.elim
    | own _ => exact p.elim
    | ownd _ _ => exact p.elim
    | val _ => exact p.elim
    | lam => exact p.elim
/-- e.f -/
theorem se_excF {i : Nat} {x : Str} {p2 : Pos} {cs : List Str} {f : Str} (hN : X.N[i]? = some x) (hv : Vis X.env.scope x) (hxf : ∀ c ∈ cs, ∀ C, X.mg c = some (.ref C) → XfC X.K C ∧ PySem.W.findIn X.K (.ref C) f = some none)
    (hd : (x == ("__debug__" : Str)) = false := by decide) (hcd : (x == ("__classdict__" : Str)) = false := by decide) (hb : attributeBase (.Name x p2) f X.env (eval (.Name x p2) X.env) = eval (.Name x p2) X.env := by rfl) : SE X W (.Attribute (.Name x p2) f pos) (eExcF i cs f) := by
  refine ⟨fun pins s σ H Q I h => ?_⟩
  obtain ⟨M, r, S, en, rh, p⟩ := h
  unfold eExcF at p
  cases q : r[i]? with
  | none => rw [q] at p; exact p.elim
  | some z =>
    rw [q] at p
    obtain ⟨v, h1, h2⟩ := en.sl i z q
    cases z with
    | exc k fs =>
      obtain ⟨a, oe, C, dx, rfl, hm, hz, hf, hg, hxr⟩ := h2
      dsimp only at p
      split at p
      · rename_i hk
        obtain ⟨T, hno⟩ := hxf k hk C hg
        cases q2 : fs.lookup f with
        | none => rw [q2] at p; exact p.elim
        | some d =>
          rw [q2] at p
          rcases hxr with ⟨z, _⟩ | ⟨dd, vfs, z1, z2, z3, _⟩
          · rw [z] at q2; cases q2
          · obtain ⟨y, hl, rd⟩ := z3.lookup q2
            subst z1
            refine attr_of hb (thn ((pe_var (pos := p2) (i := i) hN hv hd hcd).run pins s σ H (fun v H1 => v = .ref a ∧ H1 = H) I ⟨.ref a, h1, rfl, rfl⟩) fun u s1 hh => ?_)
            obtain ⟨x1, H1, I1, rx, ex, eH⟩ := hh
            subst ex
            rw [eH] at I1
            obtain rfl : u = Value.ref a := rx
            obtain ⟨ha, _⟩ := I1.pin (a, oe) (List.mem_append_left _ hm)
            obtain ⟨vs, hd'⟩ := hf
            have hx : ObjOk X.prog X.w H s1.heap dd (.xd vfs) := I1.hok dd _ z2
            obtain ⟨mA, hns, hr⟩ := hx
            obtain ⟨od, ho, hll⟩ := lookIn_ns hns
            obtain ⟨u, hu, ru⟩ := RelO.some_of (v := y) (o := mA f) (by rw [← hl]; exact hr f)
            have J : PySem.W.InstAt s1.heap a oe C (some od) := ⟨ha, hz.1, by unfold PySem.W.notCls; rw [hd'] <;> rfl, by rw [hz.2]; exact ho⟩
            exact HandSPX.exc_get I1.kIn J T.ga T.gg T.exC (PySem.W.findObj_own T.hdC hno rfl (by rw [hll, hu])) (handed_of ru) ⟨y, H, I1.tok _, ru, p M y H Ext.refl rh rd⟩
      · exact p.elim
    | un => exact p.elim
    | own _ => exact p.elim
    | ownd _ _ => exact p.elim
    | val _ => exact p.elim
    | lam => exact p.elim
end
end Dn

end
section
set_option Elab.async false
set_option linter.all false
set_option maxRecDepth 100000
set_option maxHeartbeats 4000000
/-! Lambdas without parameters, handed to a def that calls them. -/
namespace Dn
open PySem PySem.Spec PyProof.Rows L2 LamX
/-- the lambda that a name holds, called -/
def eAct (i : Nat) (act : Store → Rs D) : DE := fun r S => match r[i]? with
  | some .lam => act S
  | _ => .bad
/-- what a def of n names that gets a lambda is worth -/
def hoD (n : Nat) (d : (Store → Rs D) → DS) (act : Store → Rs D) : Store → Rs D := fun S => match d act (.lam :: List.replicate (n - 1) .un) S with
  | .next _ S => .ok .non S
  | .ret v _ S => .ok v S
  | .exc _ _ _ _ => .bad
  | _ => .bad
/-- x(lambda: b) -/
def eHo (m : (Store → Rs D) → Store → Rs D) (b : DE) : DE := fun r S => m (fun S' => b (deexc r) S') S
section
variable {X : Cx} {pins : List (Addr × Obj)} {σ : L2.St} {H HZ : Hp} {s s1 : Shared}
/-- the lambda is made: its code object is new, or found in the table -/
theorem lam_make3 {T : List (Addr × Str)} {c P : Addr} {params : Arguments} {body : Expr} {scope : Scope} {pos : Pos} {E : Value → Shared → Prop} {Q : Value → Shared → Prop} (I : Inv X pins σ H s) (TB : TabB X.base X.mg c P) (hcode : X.env.code = .ref c)
    (hm : (P, X.env.qual ++ "<lambda>") ∈ T) (hu : ∀ p ∈ T, p.1 = P → p.2 = X.env.qual ++ "<lambda>") (hT : Tabs T H) (hdef : defaultsOf params X.env = ([], [])) (hfree : ∀ y ∈ scope.names, y.2 = .free → ∃ c, X.env.cells.lookup y.1 = some c)
    (h : ∀ (f c' : Addr) (pm ctv : Value) (H1 : Hp) (s' : Shared), Inv X pins σ H1 s' → ExtN H H1 → (∀ b o, H b = some o → ∃ o', H1 b = some o') → Tabs T H1 →
      s'.heap.get? f = some (PySem.W.kla_obj "<lambda>" (X.env.qual ++ "<lambda>") params body scope (cloFrom X.env.cells scope.names []) pm c' ctv) → H1 f = none → f ∉ frs X.stack → H1 c' = some (CodeO c' (X.env.qual ++ "<lambda>")) → Q (.ref f) s') :
    wpAny (model X.prog X.w) X.A (eval (.Lambda params body scope pos) X.env) Q E s := by
  obtain ⟨ps, hP, ht, ha⟩ := hT _ hm
  refine PySem.W.kla_eval hdef ?_
  have bP : s.heap.BuiltinsAt X.mg P := TB.bm.keeps I.bk
  have hP' : s.heap.get? P = some { cls := .none, data := .fields ps } := I.hok P _ hP
  have nofr : ∀ f, s.heap.objs.size ≤ f → f ∉ frs X.stack := fun f hf z => by
    rcases List.mem_cons.mp (I.stkSub _ z) with e | e
    · have h1 := I.lt
      rw [← e] at h1
      exact Nat.lt_irrefl _ (Nat.lt_of_lt_of_le h1 hf)
    · exact I.nofs hf e
  cases hc : codeAmong pos ps.toList with
  | none =>
    refine PySem.W.kla_makeFunction (mg := X.mg) (c := c) (P := P) (ps := ps) (closure_ok hfree) I.ok.glob (I.mod.glob.keeps I.bk) hcode (TB.code.keeps I.bk) hP' ht hc TB.gP bP fun c' ctv h' tk hx hge hlt hrec htb => ?_
    obtain ⟨c2, oc, vs, t, e2, hoc, hd, hv⟩ := hrec
    cases e2
    have hsz : s.heap.objs.size ≤ h'.objs.size := Nat.le_trans hge (Nat.le_of_lt hlt)
    have nC : H c' = none := I.hok.fresh hge
    have I1 := inv_table (t' := tk) (more := #[rawInt pos.line, rawInt pos.col, .ref c']) (h' := h'.push (PySem.W.kla_obj "<lambda>" (X.env.qual ++ "<lambda>") params body scope (cloFrom X.env.cells scope.names []) ((X.mg "__name__").getD .none) c' ctv)) I hP
      (fun b o hb e => Heap.get?_push_of_some _ (hx b o hb e)) (Heap.get?_push_of_some _ htb) hge ⟨oc, vs, t, Heap.get?_push_of_some _ hoc, hd, hv⟩
    have hE : ExtN H (upd (upd H P (.tbl (ps ++ #[rawInt pos.line, rawInt pos.col, .ref c']))) c' (CodeO c' (X.env.qual ++ "<lambda>"))) := fun b o e n => by
      rw [upd_ne (ne_of_none e nC), upd_ne (fun z => n ps (Option.some.inj (e.symm.trans (by rw [z]; exact hP))))]
      exact e
    have hE2 : ∀ b o, H b = some o → ∃ o', (upd (upd H P (.tbl (ps ++ #[rawInt pos.line, rawInt pos.col, .ref c']))) c' (CodeO c' (X.env.qual ++ "<lambda>"))) b = some o' := fun b o e => by
      by_cases h1 : b = c'
      · exact ⟨_, by rw [h1, upd_same]⟩
      · by_cases h2 : b = P
        · exact ⟨_, by rw [upd_ne h1, h2, upd_same]⟩
        · exact ⟨o, by rw [upd_ne h1, upd_ne h2]; exact e⟩
    have eL : (ps ++ #[rawInt pos.line, rawInt pos.col, .ref c']).toList = ps.toList ++ [rawInt pos.line, rawInt pos.col, .ref c'] := by simp
    refine h h'.objs.size c' ((X.mg "__name__").getD .none) ctv _ _ I1 hE hE2 (fun p hp => ?_) (Heap.get?_push_size _ rfl) ?_ (nofr _ hsz) upd_same
    · by_cases hb : p.1 = P
      · rw [hu p hp hb, hb]
        refine ⟨_, by rw [upd_ne (ne_of_none hP nC), upd_same], by rw [eL]; exact PySem.TriplesOk_snoc _ _ _ _ ht, fun p' cv hcv => ?_⟩
        rw [eL] at hcv
        rcases among_app _ ht hcv with z | z
        · obtain ⟨c0, e1, e2⟩ := ha p' cv z
          exact ⟨c0, e1, hE _ _ e2 codeO_ne⟩
        · exact ⟨c', z, upd_same⟩
      · obtain ⟨ps', a1, a2, a3⟩ := hT p hp
        refine ⟨ps', by rw [upd_ne (ne_of_none a1 nC), upd_ne hb]; exact a1, a2, fun p' cv hcv => ?_⟩
        obtain ⟨c0, e1, e2⟩ := a3 p' cv hcv
        exact ⟨c0, e1, hE _ _ e2 codeO_ne⟩
    · have n1 : h'.objs.size ≠ c' := Nat.ne_of_gt hlt
      have n2 : h'.objs.size ≠ P := Nat.ne_of_gt (Nat.lt_of_lt_of_le (Heap.lt_size hP') hsz)
      rw [upd_ne n1, upd_ne n2]
      exact I.hok.fresh hsz
  | some cv =>
    obtain ⟨c', e, hco⟩ := ha pos cv hc
    subst e
    refine PySem.W.kla_makeFunctionHit (mg := X.mg) (c := c) (P := P) (ps := ps) (closure_ok hfree) I.ok.glob (I.mod.glob.keeps I.bk) hcode (TB.code.keeps I.bk) hP' ht hc bP fun ctv h' tk hx hsz => ?_
    have I1 : Inv X pins σ H { s with heap := h'.push (PySem.W.kla_obj "<lambda>" (X.env.qual ++ "<lambda>") params body scope (cloFrom X.env.cells scope.names []) ((X.mg "__name__").getD .none) c' ctv), toks := tk } := I.kept fun b o e => Heap.get?_push_of_some _ (hx b o e)
    exact h h'.objs.size c' ((X.mg "__name__").getD .none) ctv H _ I1 (ExtN.refl H) (fun _ o e => ⟨o, e⟩) hT (Heap.get?_push_size _ rfl) (I.hok.fresh hsz) (nofr _ hsz) hco
/-- the lambda called, in the def that got it; the wish may hang on the state -/
theorem pe_actS {CXg : CXT} {Eg : XK} {Ng : List Str} {qg : Str} {sg : Scope} {g f c' : Addr} {cdg pm ctv : Value} {params : Arguments} {body : Expr} {scope : Scope} {k i : Nat} {a : Str} {pn : List (Addr × Obj)} {xe : Value → Shared → Prop} {W : WX} {tb : XK → TE} {p1 p2 : Pos}
    (I : Inv X pins σ H s) (L : LamS X.env.scope scope) (hf : s.heap.get? f = some (PySem.W.kla_obj "<lambda>" (X.env.qual ++ "<lambda>") params body scope (cloFrom X.env.cells scope.names []) pm c' ctv)) (hfn : H f = none) (hfr : f ∉ frs X.stack)
    (hbind : bindArgs (PySem.W.kla_fn "<lambda>" (X.env.qual ++ "<lambda>") params body scope (cloFrom X.env.cells scope.names []) pm (.ref c') ctv) ⟨[], []⟩ = pure [])
    (tk : Takes ((cxOf CXg X.prog X.w X.K X.mg X.base Ng qg sg g cdg X.A X.stack s H Eg).tr pn xe) W) (hr : Room (k + 1) (X.A.deeper (envOfC qg sg s.heap.objs.size g cdg)))
    (hbody : ∀ (A : Around) (outer : List Env) (s : Shared) (H : Hp) (E : XK), Room k (A.deeper (lamEnv X scope s.heap.objs.size f c')) → PE (lamCx X A outer s H E scope f c') body (tb E))
    (hN : Ng[i]? = some a) (hv : Vis sg a) (hd : (a == ("__debug__" : Str)) = false) (hcd : (a == ("__classdict__" : Str)) = false) :
    PE ((cxOf CXg X.prog X.w X.K X.mg X.base Ng qg sg g cdg X.A X.stack s H Eg).tr pn xe) (.Call (.Name a p1) [] [] p2)
      (fun σZ HZ Q => σZ[i]? = some (some (.ref f)) ∧ HZ c' = some (CodeO c' (X.env.qual ++ "<lambda>")) ∧ tb (WE W σZ) σ HZ Q) := by
  refine ⟨fun pinsZ sZ σZ HZ Q IZ h => ?_⟩
  obtain ⟨hs, hc, ht⟩ := h
  refine wpAny_Call_Name_kw (thn ((pe_var (pos := p1) (i := i) hN hv hd hcd).run pinsZ sZ σZ HZ (fun v H1 => v = .ref f ∧ H1 = HZ) IZ ⟨.ref f, hs, rfl, rfl⟩) fun u s1 ⟨v, H1, I1, r1, q1⟩ => ?_)
  obtain ⟨ev, eH⟩ := q1
  subst ev
  rw [eH] at I1
  obtain rfl : u = Value.ref f := r1
  have of1 : s1.heap.get? f = some (PySem.W.kla_obj "<lambda>" (X.env.qual ++ "<lambda>") params body scope (cloFrom X.env.cells scope.names []) pm c' ctv) := I1.base.keep f _ hf hfn hfr (fun z => nomatch (show f ∈ ([] : List Addr) from z))
  refine PySem.W.callWith_F0 ⟨_, _, _, _, of1⟩ ?_
  have un : Un (frs X.stack) [] H HZ s.heap s1.heap := I1.base
  obtain ⟨⟨oc, vs, t, hoc, hdc, hvc⟩, _, _⟩ := I1.hok c' _ hc
  have rc : codeAny (model X.prog X.w) (X.A.deeper (envOfC qg sg s.heap.objs.size g cdg)) (.call (.ref f) ⟨[], []⟩) (CR (L2.CX X.prog X.w) (envOfC qg sg s.heap.objs.size g cdg :: X.stack) X.prog X.w HZ s1 Q (WE W σZ)) s1 := by
    refine PySem.W.kla_callFunE hr.depth of1 rfl L.co L.gen rfl ⟨c', oc, vs, t, rfl, hoc, hdc, hvc⟩ ?_
    rw [hbind]
    refine wpAny_pure (wpAny_newFunctionEnv (fun y hy => (L.own y hy).2) (fun y hy => absurd hy (by simp)) (fun h₁ hns hsb => ⟨I1.nolimit.fresh _ hsb, ?_⟩) L.kind)
    show codeAny _ _ (.expr body (lamEnv X scope s1.heap.objs.size f c')) _ _
    have kp : ∀ b o, s1.heap.get? b = some o → h₁.get? b = some o := fun b o e => hsb.extBut b o (Nat.ne_of_lt (Heap.lt_size e)) (Heap.get?_push_of_some _ e)
    have J : Inv (lamCx X (X.A.deeper (envOfC qg sg s.heap.objs.size g cdg)) (envOfC qg sg s.heap.objs.size g cdg :: X.stack) s1 HZ (WE W σZ) scope f c') [] σ HZ { s1 with heap := h₁, toks := s1.toks + ([] : List (Str × Value)).length } :=
      lam_start2 I L I1.env0 hr.hd un hns kp
    refine PySem.W.kla_codeExpr (wpAny_mono ((hbody _ _ s1 HZ (WE W σZ) (hr.deeper _)).run [] _ _ HZ Q J ht) (fun v s' hq => ?_) fun e s' hq => hq)
    obtain ⟨w', H', J', rv, q⟩ := hq
    exact ⟨w', H', J'.os, J'.bare, J'.base, J'.hok, rv, q⟩
  have hx := passAt tk σZ
  refine wpAny_call (codeAny_mono rc fun r s' hq => ?_)
  cases r with
  | error e => exact hx pinsZ HZ s1 e s' I1 hq
  | ok fl =>
    cases fl with
    | ret u => exact I1.after hq
    | next => exact False.elim hq
    | brk => exact False.elim hq
    | cont => exact False.elim hq
/-- the def that calls what it got -/
def GivesW (X : Cx) (Ng : List Str) (x : Str) (sg : Scope) (g : Addr) (cdg : Value) (bg : List Stmt) (a : Str) (q : Str) (TT : (XK → Hp → VK → Prop) → Hp → VK → Prop) : Prop :=
  ∀ (f c' : Addr) (s : Shared) (H : Hp) (Q : VK) (tl : XK → Hp → VK → Prop), Room 1 (X.A.deeper (envOfC x sg s.heap.objs.size g cdg)) →
    (∀ (W : WX) (pn : List (Addr × Obj)) (xe : Value → Shared → Prop) (p1 p2 : Pos), Takes ((cxOf C8.CX0 X.prog X.w X.K X.mg X.base Ng x sg g cdg X.A X.stack s H C8.E0).tr pn xe) W →
      PE ((cxOf C8.CX0 X.prog X.w X.K X.mg X.base Ng x sg g cdg X.A X.stack s H C8.E0).tr pn xe) (.Call (.Name a p1) [] [] p2) (fun σZ HZ Q => σZ[0]? = some (some (.ref f)) ∧ HZ c' = some (CodeO c' q) ∧ tl (WE W σZ) HZ Q)) →
    H c' = some (CodeO c' q) → TT tl H Q →
    ∃ t, PSs (cxOf C8.CX0 X.prog X.w X.K X.mg X.base Ng x sg g cdg X.A X.stack s H C8.E0).nox bg t ∧ t { nx := fun _ H' => Q .non H', rt := Q } (L2.start Ng [.ref f]) H
def tLamW (T : List (Addr × Str)) (TT : (XK → Hp → VK → Prop) → Hp → VK → Prop) (t : XK → TE) : TE := fun σ H Q => Tabs T H ∧ ∀ H1, ExtN H H1 → (∀ b o, H b = some o → ∃ o', H1 b = some o') → Tabs T H1 → TT (fun E H' Q' => t E σ H' Q') H1 Q
theorem pe_lamW {T : List (Addr × Str)} {TT : (XK → Hp → VK → Prop) → Hp → VK → Prop} {x a : Str} {g c P : Addr} {k : Nat} {pg : Arguments} {bg : List Stmt} {sg : Scope} {dV kV doc pm cdv ct oc : Value} {an od : Option Addr} {osl : Array (Option Value)} {Ng : List Str}
    {params : Arguments} {body : Expr} {scope : Scope} {t : XK → TE} {p lpos pos : Pos} (hg : Gl X x) (hm : X.mg x = some (.ref g)) (hk : PySem.W.keepIn X.K (.ref g) = true)
    (lk : X.K.lookup g = some ⟨oc, od, .func (PySem.W.fnOf x x pg bg sg dV kV doc pm an cdv ct), osl⟩) (hcg : PySem.W.codeIn X.K cdv x = true) (hb : L2.Binds X.K (PySem.W.fnOf x x pg bg sg dV kV doc pm an cdv ct) [a] []) (Sg : FnScope Ng [a] sg) (hNg : Ng[0]? = some a) (hva : Vis sg a)
    (hG : GivesW X Ng x sg g cdv bg a (X.env.qual ++ "<lambda>") TT)
    (TB : TabB X.base X.mg c P) (hcode : X.env.code = .ref c) (hmT : (P, X.env.qual ++ "<lambda>") ∈ T) (hu : ∀ p ∈ T, p.1 = P → p.2 = X.env.qual ++ "<lambda>") (hr : Room (k + 2) X.A) (L : LamS X.env.scope scope) (hdef : defaultsOf params X.env = ([], []))
    (hbind : ∀ (q : Str) (cl : List (Str × Addr)) (pm cv ctv : Value), bindArgs (PySem.W.kla_fn "<lambda>" q params body scope cl pm cv ctv) ⟨[], []⟩ = pure [])
    (hbody : ∀ (A : Around) (outer : List Env) (s : Shared) (H : Hp) (E : XK) (f c' : Addr), Room k (A.deeper (lamEnv X scope s.heap.objs.size f c')) → PE (lamCx X A outer s H E scope f c') body (t E))
    (hdb : (x == ("__debug__" : Str)) = false := by decide) (hd : (a == ("__debug__" : Str)) = false := by decide) (hcd : (a == ("__classdict__" : Str)) = false := by decide) :
    PE X (.Call (.Name x p) [.Lambda params body scope lpos] [] pos) (tLamW T TT t) := by
  refine ⟨fun pins s σ H Q I h => ?_⟩
  obtain ⟨hT, h⟩ := h
  refine wpAny_Call_Name_kw (ld_glob I hg hm ?_ hdb)
  refine PySem.W.callWith_K (h₀ := X.base) I.ok.mod.kin hk ?_ (by rfl) (by rfl)
  show wpAny _ _ (spliced ((false, eval (.Lambda params body scope lpos) X.env) :: backTo pos (starEach [] X.env))) _ _ s
  refine Calls.spliced_cons (lam_make3 I TB hcode hmT hu hT hdef (L.has I.ok) fun f c' pm' ctv H1 s' I1 eN eN2 T1 hf hfn hfr hco => ?_)
  refine Calls.spliced_nil ⟨I1.kIn, ?_⟩
  have rc : codeAny (model X.prog X.w) X.A (.call (.ref g) ⟨[.ref f], []⟩) (CR C8.CX0 X.stack X.prog X.w H1 s' Q C8.E0) s' := by
    refine run_ofS (N := Ng) (ps := [a]) (us := [.ref f]) (vs := [.ref f]) lk hcg Sg hr I1.env0 (hb s' [.ref f] I1.kIn rfl) (.cons rfl .nil) rfl fun hr' => ?_
    obtain ⟨t', ht', hq'⟩ := hG f c' s' H1 Q (fun E H' Q' => t E σ H' Q') (hr'.mono (by omega)) (fun W pn xe p1 p2 tk => pe_actS (i := 0) I1 L hf hfn hfr (hbind _ _ _ _ _) tk hr' (fun A outer s H E hr2 => hbody A outer s H E f c' hr2) hNg hva hd hcd) hco (h H1 eN eN2 T1)
    exact ⟨t', ht'.nox, hq'⟩
  refine wpAny_call (codeAny_mono rc fun r s2 hq => ?_)
  cases r with
  | error e => exact (show False from hq).elim
  | ok fl =>
    cases fl with
    | ret u => exact I1.after hq
    | next => exact False.elim hq
    | brk => exact False.elim hq
    | cont => exact False.elim hq
end
end Dn

end
section
set_option Elab.async false
set_option linter.all false
set_option maxRecDepth 100000
set_option maxHeartbeats 4000000
/-! A def that gets a lambda: what it gives, its call. -/
namespace Dn
open PySem PySem.Spec PyProof.Rows L2 LamX
variable [Tb]
def TTD (K : PySem.W.Frag) (mg : Str → Option Value) (m : (Store → Rs D) → Store → Rs D) : (XK → Hp → VK → Prop) → Hp → VK → Prop := fun tl H Q => ∃ M S act, RelH (gk K mg) M S H ∧
  (∀ E M' S' H' Q', Ext M H M' H' → RelH (gk K mg) M' S' H' → Post (gk K mg) (RD (gk K mg)) (fun cls dx _ H => E cls dx H) M' H' [] (act S') Q' → tl E H' Q') ∧ Post (gk K mg) (RD (gk K mg)) WN M H [] (m act S) Q
theorem ho_noexc {G : Gx} {W W' : WX} {M : Mp} {H H1 : Hp} {s s' : L2.St} {n : Nat} {d : (Store → Rs D) → DS} {act : Store → Rs D} {S : Store} {Q : VK} (e : Ext M H M H1) (p : Post G (RD G) W M H s (hoD n d act S) Q) : Post G (RD G) W' M H1 s' (hoD n d act S) Q := by
  cases q : hoD n d act S with
  | ok v S1 => rw [q] at p; exact fun M' y H' e' => p M' y H' (e.trans e')
  | exc c fs S1 =>
    unfold hoD at q
    split at q <;> cases q
  | bad => rw [q] at p; exact p.elim
section
variable {X : Cx} {W : WX} {e : Expr} {b : DE} {n : Nat} {d : (Store → Rs D) → DS}
theorem ext_tab {G : Gx} {M : Mp} {S : Store} {H H1 : Hp} (rh : RelH G M S H) (eN : ExtN H H1) (eN2 : ∀ b o, H b = some o → ∃ o', H1 b = some o') (T1 : Tabs G.T H1) : Ext M H M H1 ∧ RelH G M S H1 := by
  refine ⟨⟨fun _ _ h => h, fun _ _ h => h, fun _ _ h => h, fun _ _ h => .inl h, fun _ _ h => .inl h, fun a o h _ t => eN a o h t, eN2⟩, ⟨fun l o q => ?_, rh.dom, rh.inj, fun a vs q => eN a _ (rh.tup a vs q) (fun _ z => by cases z), fun a vs q => ?_, rh.apt, T1⟩⟩
  · obtain ⟨a, e1, e2⟩ := rh.obj l o q
    obtain ⟨u, e3, e4, e5, e6⟩ := e2.some
    refine ⟨a, e1, ?_⟩
    rw [eN a u e3 e5, ← e3]
    exact e2
  · rcases rh.lst a vs q with z | ⟨o, z⟩
    · exact .inl (eN a _ z (fun _ z => by cases z))
    · exact .inr ⟨o, eN a _ z (fun _ z => by cases z)⟩
theorem se_ho (h : PE X e (tLamW Tb.T (TTD X.K X.mg (hoD n d)) (fun E => tE (gk X.K X.mg) (WD E) b))) : SE X W e (eHo (hoD n d) b) := by
  refine h.dimp ?_
  rintro s H Q ⟨M, r, S, en, rh, p⟩
  refine ⟨rh.tabs, fun H1 eN eN2 T1 => ?_⟩
  obtain ⟨ext, rh1⟩ := ext_tab rh eN eN2 T1
  have p : Post (gx X) (RD (gx X)) W M H s (hoD n d (fun S' => b (deexc r) S') S) Q := p
  refine ⟨M, S, fun S' => b (deexc r) S', RelH.g (G := gx X) (pn := []) (lm := Tb.lam) rh1, fun E M' S' H' Q' e rh' p' => ?_, ?_⟩
  · exact ⟨M', deexc r, S', envR_de (G := gx X) (pn := []) (en.mono (ext.trans e)), rh', p'⟩
  · exact ho_noexc ext (Post.g (G := gx X) (pn := []) (lm := Tb.lam) p)
theorem ho_gives {Ng : List Str} {x a q : Str} {sg : Scope} {g : Addr} {cdg : Value} {bg : List Stmt} (hn : Ng.length = n) (hn1 : 1 ≤ n)
    (hb : ∀ (f : Addr) (s : Shared) (H : Hp) (M : Mp) (act : Store → Rs D), Room 1 (X.A.deeper (envOfC x sg s.heap.objs.size g cdg)) →
      (∀ (W : WX) (pn : List (Addr × Obj)) (xe : Value → Shared → Prop) (p1 p2 : Pos), Takes ((cxOf C8.CX0 X.prog X.w X.K X.mg X.base Ng x sg g cdg X.A X.stack s H C8.E0).tr pn xe) W →
        @SE ⟨Tb.T, some (f, M, H)⟩ ((cxOf C8.CX0 X.prog X.w X.K X.mg X.base Ng x sg g cdg X.A X.stack s H C8.E0).tr pn xe) W (.Call (.Name a p1) [] [] p2) (eAct 0 act)) →
      @SSs ⟨Tb.T, some (f, M, H)⟩ (cxOf C8.CX0 X.prog X.w X.K X.mg X.base Ng x sg g cdg X.A X.stack s H C8.E0).nox M H WN bg (d act)) :
    GivesW X Ng x sg g cdg bg a q (TTD X.K X.mg (hoD n d)) := by
  intro f c' s H Q tl hr act' hc h
  obtain ⟨M, S, act, rh, link, p⟩ := h
  have nl : ∀ l, M.loc l ≠ some c' := fun l z => by
    have hl := rh.dom l c' z
    obtain ⟨a, e1, e2⟩ := rh.obj l S[l] (by simp [hl])
    rw [z] at e1; cases e1
    obtain ⟨u, e3, e4, e5, e6⟩ := e2.some
    rw [hc] at e3
    exact code_ne (c := c') (q := q) e6 (Option.some.inj e3).symm
  refine ⟨_, hb f s H M act hr (fun W pn xe p1 p2 tk => (act' W pn xe p1 p2 tk).dimp fun σ HZ Q' h => ?_), M, .lam :: List.replicate (n - 1) .un, S, ⟨⟨?_, fun i z qz => ?_, fun i j xs ys a q1 => ?_⟩, RelH.g (G := gk X.K X.mg) (pn := []) (lm := some (f, M, H)) rh, Ext.refl, fun i xs a q1 => ?_⟩, ?_⟩
  · obtain ⟨M2, r2, S2, en2, rh2, p2⟩ := h
    unfold eAct at p2
    cases qz : r2[0]? with
    | none => rw [qz] at p2; exact p2.elim
    | some z =>
      rw [qz] at p2
      cases z with
      | lam =>
        obtain ⟨v, h1, f', M1, H1, hl, hv, ex⟩ := en2.sl 0 _ qz
        have hl : some (f, M, H) = some (f', M1, H1) := hl
        cases hl
        subst hv
        exact ⟨h1, ex.keep c' _ hc nl codeO_ne, link (WE W σ) M2 S2 HZ Q' ex (RelH.g (pn := []) (lm := Tb.lam) rh2) (Post.g (pn := []) (lm := Tb.lam) p2)⟩
      | un => exact p2.elim
      | val _ => exact p2.elim
      | own _ => exact p2.elim
      | ownd _ _ => exact p2.elim
      | exc _ _ => exact p2.elim
  · unfold L2.start
    simp
    omega
  · cases i with
    | zero =>
      simp at qz
      subst qz
      exact ⟨some (.ref f), by unfold L2.start; simp, f, M, H, rfl, rfl, Ext.refl⟩
    | succ i =>
      simp only [List.getElem?_cons_succ, List.getElem?_replicate] at qz
      split at qz
      · rename_i hi
        cases qz
        refine ⟨none, ?_, trivial⟩
        unfold L2.start
        simp only [List.map_cons, List.map_nil, List.cons_append, List.nil_append, List.getElem?_cons_succ, List.getElem?_replicate, List.length_map, List.length_cons, List.length_nil]
        rw [if_pos (by omega)]
      · cases qz
  · exfalso
    have := List.mem_of_getElem? q1
    simp at this
  · exfalso
    have := List.mem_of_getElem? q1
    simp at this
  · have p := Post.g (G := gk X.K X.mg) (pn := []) (lm := some (f, M, H)) p
    unfold hoD at p
    cases qd : d act (.lam :: List.replicate (n - 1) .un) S with
    | next r S1 => rw [qd] at p; exact fun M1 s1 H1 w1 l1 => p M1 .non H1 w1.ext w1.heap rfl
    | ret v r S1 => rw [qd] at p; exact fun M1 y s1 H1 w1 l1 rv => p M1 y H1 w1.ext w1.heap rv
    | brk r S1 => rw [qd] at p; exact p.elim
    | cont r S1 => rw [qd] at p; exact p.elim
    | exc c fs r S1 => rw [qd] at p; exact p.elim
    | bad => rw [qd] at p; exact p.elim
end
end Dn

end
section
set_option Elab.async false
set_option linter.all false
set_option maxRecDepth 100000
set_option maxHeartbeats 4000000
/-! The end of a law row, with tables of code objects. -/
namespace Dn
open PySem PySem.Spec PyProof.Rows L2 LamX
theorem walk_ofD {l : PySem.W.OpenLaw} {n k : Nat} {q : Program} {loose : List Str} {XP : (Str → Option Value) → Heap → Prop} {YP : World → Heap → Prop} {d : DefRec} {x : Str}
    (hn : l.most = some n) (hn2 : n ≤ sizeLine) (hdf : d.params.defaults = []) (hr : Room k callerA)
    (F : ∀ (w : World) (mg : Str → Option Value) (fa : Addr) (h : Heap), YP w h → h.Ns mainGlobals mg → mg d.name = some (.ref fa) →
      ∃ (K : PySem.W.Frag) (fd : FuncData) (cs : List (Addr × Addr)) (sp : Sp), K.In h ∧ (∀ p ∈ cs, h.get? p.2 = some { cls := .none, data := .fields #[] }) ∧ (∀ p ∈ cs, K.lookup p.2 = none) ∧ (∀ p ∈ cs, PySem.W.CodeHd h p.1 p.2) ∧
        (∀ (s : Shared) (u : Value), BindsTo s fd ⟨[u], []⟩ [(x, u)]) ∧
        (∀ (H : Hp) (a : Addr) (ns : List Int), ns.length ≤ n → (∀ p ∈ cs, H p.2 = some (.tbl #[])) → SqL K H a (ns.map V.int) → sp [.ref a] H (fun v _ => v = .bl true) fun _ _ _ => False) ∧
        ∀ base : Heap, K.In base → base.Ns mainGlobals mg → (∀ p ∈ cs, TabB base mg p.1 p.2) → FnOk l.prog w K mg base (L2.CX l.prog w) k fa fd [x] sp) :
    PySem.W.WalkO q loose XP YP l.row.toRowW d [] (fun f vs => PySem.call f vs) := by
  refine Att.attach_callB hn hdf fun w s₀ s₁ mg mb fa o pm cd doc a vs ns G Y ho hd hcd hmg hobj hints hlen hbits hg => ?_
  obtain ⟨K, fd, cs, sp, KX, hT, nT, C, hb, hsp, hF⟩ := F w mg fa _ Y G.T.g hmg
  exact law_callTs KX G.T.g G.T.b G.T.builtins G.T.nolimit hg hT nT C G.T.bmain hobj hints (Nat.le_trans hlen hn2) hr hF hb (fun H hH hS => hsp H a ns hlen hH hS) fun H e s' h => by
    obtain ⟨_, _, _, _, _, _, _, _, _, _, _, _, z⟩ := h
    exact z
end Dn

end
section
set_option Elab.async false
set_option linter.all false
set_option maxRecDepth 100000
set_option maxHeartbeats 4000000
/-! Facts of classes of exceptions, one after the other. -/
namespace Dn
open PySem PySem.Spec PyProof.Rows L2
section
variable {mg : Str → Option Value} {P : Addr → Prop} {c : Str} {C : Addr} {l : List Str}
theorem ex_nil : ∀ c ∈ ([] : List Str), ∀ C, mg c = some (.ref C) → P C := fun c h => by cases h
theorem ex_cons (hg : mg c = some (.ref C)) (h : P C) (r : ∀ c ∈ l, ∀ C, mg c = some (.ref C) → P C) : ∀ c' ∈ c :: l, ∀ C, mg c' = some (.ref C) → P C := fun c' hc C' hm => by
  rcases List.mem_cons.mp hc with e | e
  · subst e
    rw [hg] at hm
    cases hm
    exact h
  · exact r c' e C' hm
theorem ex_or {l2 : List Str} (a : ∀ c ∈ l, ∀ C, mg c = some (.ref C) → P C) (b : ∀ c ∈ l2, ∀ C, mg c = some (.ref C) → P C) : ∀ c, c ∈ l ∨ c ∈ l2 → ∀ C, mg c = some (.ref C) → P C := fun c h => h.elim (a c) (b c)
end
end Dn

end
section
set_option Elab.async false
set_option linter.all false
set_option maxRecDepth 100000
set_option maxHeartbeats 4000000
/-! The head by the kit's Hook with tables; defs whose code objects are known. -/
namespace Dn
open PySem PySem.Spec PyProof.Rows L2 LamX
/-- the further facts, and that the tables stand apart -/
def exT (fx : List Fx) (tf : List He.Defn) (K : PySem.W.Frag) : Bool := (fx.all fun f => f.ok K) && decide ((tf.map fun p => (He.cT K p).2).Nodup)
abbrev hookT (n : Nat) (fx : List Fx) (fa : List He.Fa) (fn : List He.DefD) (tf : List He.Defn) : PySem.W.Hook := He.hookX n fa fn [] tf (exT fx tf)
def obsTT (n : Nat) (fx : List Fx) (fa : List He.Fa) (fn : List He.DefD) (tf : List He.Defn) (g : Addr → Option Obj) : He.AlX := He.obsX n fa fn [] tf (exT fx tf) g
theorem obsTT_eq {n : Nat} {fx : List Fx} {fa : List He.Fa} {fn : List He.DefD} {tf : List He.Defn} {g : Addr → Option Obj} {s : Shared} (h : ∀ a, g a = s.heap.get? a) : obsTT n fx fa fn tf g = (hookT n fx fa fn tf).obs s := He.obsX_eq h
structure SaysT (fx : List Fx) (fa : List He.Fa) (fn : List He.DefD) (tf : List He.Defn) (K : PySem.W.Frag) : Prop where
  d : He.SaysD fa fn K
  x : (fx.all fun f => f.ok K) = true
  nd : (tf.map fun p => (He.cT K p).2).Nodup
theorem saysT_of {fx : List Fx} {fa : List He.Fa} {fn : List He.DefD} {tf : List He.Defn} {w : World} {h : Heap} {K : PySem.W.Frag} (c : He.SaysX fa fn [] tf (exT fx tf) w h K) : SaysT fx fa fn tf K := by
  have e := c.more
  unfold exT at e
  simp only [Bool.and_eq_true, decide_eq_true_eq] at e
  exact ⟨congrArg (fun z : He.AlT => z.1) c.t, e.1, e.2⟩
section
variable {fx : List Fx} {fa : List He.Fa} {fn : List He.DefD} {tf : List He.Defn} {K : PySem.W.Frag}
theorem SaysT.fact (c : SaysT fx fa fn tf K) (i : Nat) {f : He.Fa} (h : fa[i]? = some f := by rfl) : f.ok K = true := c.d.fact i h
theorem SaysT.def_ (c : SaysT fx fa fn tf K) (i : Nat) {d : He.DefD} (h : fn[i]? = some d := by rfl) : ∃ fd, FunD K d.name d.qual d.params d.body d.scope (d.dvs K) (d.kws K) (He.fAd K d.at_) fd := c.d.def_ i h
theorem SaysT.more (c : SaysT fx fa fn tf K) (i : Nat) {f : Fx} (h : fx[i]? = some f := by rfl) : f.ok K = true := List.all_eq_true.mp c.x f (List.mem_of_getElem? h)
end
/-- an empty table is one -/
theorem tabs_empty {T : List (Addr × Str)} {H : Hp} (h : ∀ p ∈ T, H p.1 = some (.tbl #[])) : Tabs T H := fun p hp => ⟨#[], h p hp, trivial, fun pos cv z => by cases z⟩
/-- the tables of the defs that hold lambdas -/
def tbl (K : PySem.W.Frag) (l : List (He.Defn × Str)) : List (Addr × Str) := l.map fun p => ((He.cT K p.1).2, p.2)
theorem tbl_mem {K : PySem.W.Frag} {l : List (He.Defn × Str)} {p : He.Defn} {q : Str} (h : (p, q) ∈ l) : ((He.cT K p).2, q) ∈ tbl K l := List.mem_map.mpr ⟨(p, q), h, rfl⟩
theorem tbl_one {K : PySem.W.Frag} {l : List (He.Defn × Str)} (nd : (l.map fun p => (He.cT K p.1).2).Nodup) {p : He.Defn} {q : Str} (h : (p, q) ∈ l) : ∀ z ∈ tbl K l, z.1 = (He.cT K p).2 → z.2 = q := fun z hz e => by
  obtain ⟨⟨p', q'⟩, h', rfl⟩ := List.mem_map.mp hz
  have inj : ∀ {l : List (He.Defn × Str)}, (l.map fun p => (He.cT K p.1).2).Nodup → ∀ {x y}, x ∈ l → y ∈ l → (He.cT K x.1).2 = (He.cT K y.1).2 → x = y := by
    intro l
    induction l with
    | nil => intro _ x y hx; cases hx
    | cons a l ih =>
      intro nd x y hx hy e
      rw [List.map_cons, List.nodup_cons] at nd
      rcases List.mem_cons.mp hx with e1 | h1 <;> rcases List.mem_cons.mp hy with e2 | h2
      · rw [e1, e2]
      · exact absurd (List.mem_map.mpr ⟨y, h2, by rw [← e1]; exact e.symm⟩) nd.1
      · exact absurd (List.mem_map.mpr ⟨x, h1, by rw [← e2]; exact e⟩) nd.1
      · exact ih nd.2 h1 h2 e
  have := inj nd h' h e
  cases this
  rfl
variable [Tb]
section
variable {P : Program} {w : World} {K : PySem.W.Frag} {mg : Str → Option Value} {base : Heap}
/-- a def that holds lambdas: its code object is known -/
theorem fn_okL {x qual : Str} {params : Arguments} {body : List Stmt} {scope : Scope} {at_ : He.Defn} {fd : FuncData} {N ps : List Str} {k np n : Nat} {d : DS} (F : FunD K x qual params body scope [] [] (He.fAd K at_) fd) (S : FnScope N ps scope) (hp : ps.length = np) (hn : N.length = n)
    (hb : ∀ (A : Around) (outer : List Env) (s : Shared) (H : Hp) (E : XK) (M0 : Mp), Room k (A.deeper (envOfC qual scope s.heap.objs.size (He.fAd K at_) (.ref (He.cT K at_).1))) →
      Takes (cxOf (L2.CX P w) P w K mg base N qual scope (He.fAd K at_) (.ref (He.cT K at_).1) A outer s H E) (WD E) →
      PassesOwn (model P w) (A.deeper (envOfC qual scope s.heap.objs.size (He.fAd K at_) (.ref (He.cT K at_).1))) (envOfC qual scope s.heap.objs.size (He.fAd K at_) (.ref (He.cT K at_).1)) (cxOf (L2.CX P w) P w K mg base N qual scope (He.fAd K at_) (.ref (He.cT K at_).1) A outer s H E).xe →
      SSs (cxOf (L2.CX P w) P w K mg base N qual scope (He.fAd K at_) (.ref (He.cT K at_).1) A outer s H E) M0 H (WD E) body d) :
    FnOk P w K mg base (L2.CX P w) (k + 1) (He.fAd K at_) fd ps (spD (gk K mg) (fnD np n d)) := by
  obtain ⟨oc, od, dV, kV, doc, pm, an, cdv, ct, osl, rfl, lk, hcd, e1, e2⟩ := F.ex
  obtain ⟨c, rfl⟩ := He.codeIn_ref hcd
  have hc : (He.cT K at_).1 = c := He.codeOf_eq lk rfl
  have key : ∀ cdv' : Value, cdv' = .ref (He.cT K at_).1 → FnOk P w K mg base (L2.CX P w) (k + 1) (He.fAd K at_) (PySem.W.fnOf x qual params body scope dV kV doc pm an cdv' ct) ps (spD (gk K mg) (fnD np n d)) := fun cdv' hcdv => by
    subst hcdv
    -- the proof of fn_okX, at this code object
    have len : ∀ {vs : List V} {M : Mp} {ds : List D} {St : Store} {H : Hp} {Q : VK} {E : XK}, RelDs (gk K mg) M ds vs → Post (gk K mg) (RD (gk K mg)) (fun cls dx _ H => E cls dx H) M H [] (fnD np n d ds St) Q → ds.length = np := fun {vs M ds St H Q E} _ p => by
      unfold fnD at p
      split at p
      · assumption
      · exact p.elim
    refine fn_of (by rw [hc]; exact lk) (by rw [hc]; exact hcd) S (fun vs H Q E h => ?_) fun A outer s H vs Q E hr h => ?_
    · obtain ⟨M, ds, St, rd, rh, p⟩ := h
      rw [hp, ← len rd p, rd.len]
    · obtain ⟨M, ds, St, rd, rh, p⟩ := h
      have hl := len rd p
      refine ⟨_, hb A outer s H E M hr (takes_of rfl rfl rfl rfl) (passes_of rfl), M, ds.map Sl.val ++ List.replicate (n - np) Sl.un, St, ⟨⟨?_, fun i z q => ?_, fun i j xs ys a q1 => ?_⟩, rh, Ext.refl, fun i xs a q1 => ?_⟩, ?_⟩
      · have pre : ps.length ≤ N.length := by
          have := congrArg List.length S.pre
          rw [List.length_take] at this
          omega
        unfold L2.start
        simp only [List.length_append, List.length_map, List.length_replicate]
        rw [← rd.len]
        omega
      · unfold L2.start
        by_cases hi : i < ds.length
        · rw [List.getElem?_append_left (by simpa using hi), List.getElem?_map] at q
          obtain ⟨dx, hdx⟩ : ∃ dx, ds[i]? = some dx := ⟨ds[i], by simp [hi]⟩
          rw [hdx] at q
          cases q
          obtain ⟨v, hv, rv⟩ := rd.get hdx
          refine ⟨some v, ?_, v, rfl, rv⟩
          rw [List.getElem?_append_left (by simpa using (rd.len ▸ hi)), List.getElem?_map, hv]
          rfl
        · rw [List.getElem?_append_right (by simpa using hi)] at q
          rw [List.getElem?_replicate] at q
          split at q
          · rename_i hj
            cases q
            refine ⟨none, ?_, trivial⟩
            rw [List.getElem?_append_right (by simpa using (rd.len ▸ Nat.le_of_not_lt hi)), List.getElem?_replicate, if_pos (by
              simp only [List.length_map] at hj ⊢
              rw [← rd.len]
              omega)]
          · cases q
      · exfalso
        have := List.mem_of_getElem? q1
        simp at this
      · exfalso
        have := List.mem_of_getElem? q1
        simp at this
      · unfold fnD at p
        rw [if_pos hl] at p
        cases q : d (ds.map Sl.val ++ List.replicate (n - np) Sl.un) St with
        | next r S1 => rw [q] at p; exact fun M1 s1 H1 w1 l1 => p M1 .non H1 w1.ext w1.heap rfl
        | ret v r S1 => rw [q] at p; exact fun M1 y s1 H1 w1 l1 rv => p M1 y H1 w1.ext w1.heap rv
        | brk r S1 => rw [q] at p; exact p.elim
        | cont r S1 => rw [q] at p; exact p.elim
        | exc c fs r S1 => rw [q] at p; exact fun M1 s1 H1 C dx w1 l1 g x => p M1 H1 C dx w1.ext w1.heap g x
        | bad => rw [q] at p; exact p.elim
  exact key (.ref c) (by rw [hc])
end
end Dn

end
section
set_option Elab.async false
set_option linter.all false
set_option maxRecDepth 100000
set_option maxHeartbeats 4000000
/-! x(lambda: e), as a rule. -/
namespace Dn
open PySem PySem.Spec PyProof.Rows L2 LamX
variable [Tb]
section
variable {X : Cx} {W : WX} {b : DE} {n k : Nat} {d : (Store → Rs D) → DS}
theorem se_lam {x a : Str} {at_ : He.Defn} {T : List (He.Defn × Str)} {pg : Arguments} {bg : List Stmt} {sg : Scope} {fdx : FuncData} {g : Addr} {Ng : List Str} {params : Arguments} {body : Expr} {scope : Scope} {p lpos pos : Pos}
    (F : FunD X.K x x pg bg sg [] [] g fdx) (hg : Gl X x) (hm : X.mg x = some (.ref g)) (hb : L2.Binds X.K fdx [a] []) (Sg : FnScope Ng [a] sg) (hNg : Ng[0]? = some a) (hva : Vis sg a)
    (hG : ∀ cdv, GivesW X Ng x sg g cdv bg a (X.env.qual ++ "<lambda>") (TTD X.K X.mg (hoD n d)))
    (hT : Tb.T = tbl X.K T) (nd : (T.map fun p => (He.cT X.K p.1).2).Nodup) (hmT : (at_, X.env.qual ++ "<lambda>") ∈ T) (TB : TabB X.base X.mg (He.cT X.K at_).1 (He.cT X.K at_).2) (hcode : X.env.code = .ref (He.cT X.K at_).1)
    (hr : Room (k + 2) X.A) (L : LamS X.env.scope scope) (hdef : defaultsOf params X.env = ([], []))
    (hbind : ∀ (q : Str) (cl : List (Str × Addr)) (pm cv ctv : Value), bindArgs (PySem.W.kla_fn "<lambda>" q params body scope cl pm cv ctv) ⟨[], []⟩ = pure [])
    (hbody : ∀ (A : Around) (outer : List Env) (s : Shared) (H : Hp) (E : XK) (f c' : Addr), Room k (A.deeper (lamEnv X scope s.heap.objs.size f c')) → Takes (lamCx X A outer s H E scope f c') (WD E) → SE (lamCx X A outer s H E scope f c') (WD E) body b)
    (hdb : (x == ("__debug__" : Str)) = false := by decide) (hd : (a == ("__debug__" : Str)) = false := by decide) (hcd : (a == ("__classdict__" : Str)) = false := by decide) :
    SE X W (.Call (.Name x p) [.Lambda params body scope lpos] [] pos) (eHo (hoD n d) b) := by
  obtain ⟨oc, od, dV, kV, doc, pm, an, cdv, ct, osl, rfl, lk, hcg, _, _⟩ := F.ex
  refine se_ho (pe_lamW (t := fun E => tE (gk X.K X.mg) (WD E) b) hg hm F.kp lk hcg hb Sg hNg hva (hG cdv) TB hcode (hT ▸ tbl_mem hmT) (hT ▸ tbl_one nd hmT) hr L hdef hbind (fun A outer s H E f c' hr' => ?_) hdb hd hcd)
  exact hbody A outer s H E f c' hr' (takes_of rfl rfl rfl rfl)
end
end Dn

end
section
set_option Elab.async false
set_option linter.all false
set_option maxRecDepth 100000
set_option maxHeartbeats 4000000
/-! Lists of a def's own: what they hold changes. -/
namespace Dn
open PySem PySem.Spec PyProof.Rows L2 LamX
/-- no lambda in hand, or one got at the def's entry -/
def LamAt (G : Gx) (H0 : Hp) : Prop := ∀ f M1 H1, G.lam = some (f, M1, H1) → H1 = H0
variable [Tb]
section
variable {G : Gx} {M0 M : Mp} {H0 H : Hp} {r : Rho} {S : Store} {s : L2.St} {i : Nat} {xs ys : List D} {p : Addr} {vs ws : List V}
/-- the list at slot i holds others -/
theorem Wst.ownPut (w : Wst G M0 H0 M r S s H) (la : LamAt G H0) (q : r[i]? = some (.own xs)) (e1 : s[i]? = some (some (.ref p))) (hp : H p = some (.lst vs)) (rd : RelDs G M ys ws) : Wst G M0 H0 M (r.set i (.own ys)) S s (L2.upd H p (.lst ws)) := by
  have hi : i < r.length := (List.getElem?_eq_some_iff.mp q).1
  have h0 : H0 p = none := w.own i xs p q e1
  obtain ⟨v, e1', p', vs', e2, e3, e4, e5, e6⟩ := w.env.sl i _ q
  rw [e1] at e1'; cases e1'; cases e2
  have back : ∀ (j : Nat) (zs : List D), (r.set i (.own ys))[j]? = some (Sl.own zs) → j = i ∨ (j ≠ i ∧ r[j]? = some (Sl.own zs)) := fun j zs k => by
    by_cases e : j = i
    · exact .inl e
    · rw [List.getElem?_set_ne (Ne.symm e)] at k
      exact .inr ⟨e, k⟩
  have orig : ∀ (j : Nat) (zs : List D), (r.set i (.own ys))[j]? = some (Sl.own zs) → ∃ zs', r[j]? = some (Sl.own zs') := fun j zs k => by
    rcases back j zs k with e | ⟨_, e⟩
    · exact ⟨xs, by rw [e]; exact q⟩
    · exact ⟨zs, e⟩
  refine ⟨⟨by rw [List.length_set]; exact w.env.len, fun j x k => ?_, fun j k xs' ys' a q1 q2 q3 q4 => ?_⟩, w.heap.unk hp e5 e6, w.ext.unk h0, fun j zs a q1 q2 => ?_⟩
  · by_cases e : j = i
    · subst e
      rw [List.getElem?_set_self hi] at k
      cases k
      exact ⟨_, e1, p, ws, rfl, upd_same, rd, e5, e6⟩
    · rw [List.getElem?_set_ne (Ne.symm e)] at k
      obtain ⟨v, k1, k2⟩ := w.env.sl j x k
      refine ⟨v, k1, ?_⟩
      cases x with
      | un => trivial
      | val d => exact k2
      | own zs =>
        obtain ⟨a, us, y1, y2, y3, y4, y5⟩ := k2
        subst y1
        have ne : a ≠ p := fun z1 => by
          subst z1
          exact e (w.env.apt j i zs xs a k q k1 e1)
        exact ⟨a, us, rfl, by rw [upd_ne ne]; exact y2, y3, y4, y5⟩
      | ownd _ _ => exact k2
      | exc c fs =>
        obtain ⟨a, oe, C, dx, y1, y2, y3, y4, y5, y6⟩ := k2
        refine ⟨a, oe, C, dx, y1, y2, y3, y4, y5, ?_⟩
        rcases y6 with z | ⟨d, vfs, z1, z2, z3, z4⟩
        · exact .inl z
        · have ne : d ≠ p := fun z => by rw [z, hp] at z2; cases z2
          exact .inr ⟨d, vfs, z1, by rw [upd_ne ne]; exact z2, z3, z4⟩
      | lam =>
        obtain ⟨f, M1, H1, l1, l2, l3⟩ := k2
        have := la f M1 H1 l1
        subst this
        exact ⟨f, M1, H1, l1, l2, l3.unk h0⟩
  · obtain ⟨z1, o1⟩ := orig j xs' q1
    obtain ⟨z2, o2⟩ := orig k ys' q2
    exact w.env.apt j k z1 z2 a o1 o2 q3 q4
  · obtain ⟨z1, o1⟩ := orig j zs q1
    exact w.own j z1 a o1 q2
end
section
variable {X : Cx} {M0 : Mp} {H0 : Hp} {W : WX} {e : Expr} {da dk : DE} {dl : DL} {ds : DA} {pos : Pos} {st : Stmt} {i : Nat}
/-- xs.append(e) -/
theorem ss_app (la : LamAt (gx X) H0) (h : PS X st (tDrop (tBM X.K "list" rAppend (tVar i) (tCons (tE (gx X) W da) tNil)))) : SS X M0 H0 W st (sApp i da) := by
  refine h.dimp ?_
  rintro D s H ⟨M, r, S, w, p⟩
  unfold sApp at p
  cases q : r[i]? with
  | none => rw [q] at p; exact p.elim
  | some z =>
    rw [q] at p
    cases z with
    | own xs =>
      obtain ⟨v, e1, a, vs, rfl, e2, e3, e4, e5⟩ := w.env.sl i _ q
      refine ⟨.ref a, e1, .inl ⟨rfl, vs, .inl (.inl e2)⟩, M, r, S, w.env, w.heap, (PostS.toS (R := RD (gx X)) w p).imp fun y H1 h => ?_⟩
      obtain ⟨M1, x, S1, w1, e, rv, p1⟩ := h
      obtain ⟨v', f1, a', vs', f2, f3, f4, f5, f6⟩ := w1.env.sl i _ q
      rw [e1] at f1; cases f1; cases f2
      dsimp only at p1
      split at p1
      · rename_i hz
        exact ⟨a, vs', y, rfl, rfl, f3, by rw [← f4.len]; exact hz, p1 M1 s _ (w1.ownPut la q e1 f3 (f4.append (RelDs.nil.cons rv))) Le.refl⟩
      · exact p1.elim
    | un => exact p.elim
    | val _ => exact p.elim
    | ownd _ _ => exact p.elim
    | exc _ _ => exact p.elim
    | lam => exact p.elim
/-- xs[k] = e -/
theorem ss_put (la : LamAt (gx X) H0) (h : PS X st (tAsg (tE (gx X) W da) (gSub (tVar i) (tE (gx X) W dk) rSetL))) : SS X M0 H0 W st (sPut i dk da) := by
  refine h.dimp ?_
  rintro D s H ⟨M, r, S, w, p⟩
  refine ⟨M, r, S, w.env, w.heap, (PostS.toS (R := RD (gx X)) w p).imp fun y H1 h => ?_⟩
  obtain ⟨M1, v, S1, w1, e1, rv, p1⟩ := h
  cases q : r[i]? with
  | none => rw [q] at p1; exact p1.elim
  | some z =>
    rw [q] at p1
    cases z with
    | own xs =>
      obtain ⟨u, f1, a, vs, rfl, f2, f3, f4, f5⟩ := w1.env.sl i _ q
      refine ⟨.ref a, f1, M1, r, S1, w1.env, w1.heap, (PostS.toS (R := RD (gx X)) w1 p1).imp fun z2 H3 h => ?_⟩
      obtain ⟨M3, n, S3, w3, e3, rn, p3⟩ := h
      split at p3
      · rename_i j xs' hj
        cases hj
        cases (show _ = _ from rn)
        obtain ⟨u', g1, a', vs', g2, g3, g4, g5, g6⟩ := w3.env.sl i _ q
        rw [f1] at g1; cases g1; cases g2
        split at p3
        · rename_i m hm
          exact ⟨a, vs', j, m, rfl, rfl, g3, by rw [← g4.len]; exact hm, p3 M3 s _ (w3.ownPut la q f1 g3 (g4.set m (rv.mono e3))) Le.refl⟩
        · exact p3.elim
      · exact p3.elim
    | un => exact p1.elim
    | val _ => exact p1.elim
    | ownd _ _ => exact p1.elim
    | exc _ _ => exact p1.elim
    | lam => exact p1.elim
theorem lamAt_none (h : Tb.lam = none) : LamAt (gx X) H0 := fun f M1 H1 e => by
  have : Tb.lam = some (f, M1, H1) := e
  rw [h] at this
  cases this
end
end Dn

end
section
set_option Elab.async false
set_option linter.all false
set_option maxRecDepth 100000
set_option maxHeartbeats 4000000
/-! The end of a law row: what a text must show. -/
namespace Dn
open PySem PySem.Spec PyProof.Rows L2 LamX
/-- what the defs' proofs take of the surroundings: no lambda in hand; tl, the defs that hold lambdas -/
structure Tx [Tb] (tl : List (He.Defn × Str)) (K : PySem.W.Frag) (mg : Str → Option Value) (base : Heap) : Prop where
  lam : Tb.lam = none
  T : Tb.T = tbl K tl
  nd : (tl.map fun p => (He.cT K p.1).2).Nodup
  tb : ∀ p ∈ tl, TabB base mg (He.cT K p.1).1 (He.cT K p.1).2
theorem walk_ofG {l : PySem.W.OpenLaw} {k i0 : Nat} {q : Program} {loose : List Str} {XP : (Str → Option Value) → Heap → Prop} {d : DefRec} {x : Str} {fx : List Fx} {fa : List He.Fa} {fn : List He.DefD} {tl : List (He.Defn × Str)}
    (hn : l.most = some 63) (hdf : d.params.defaults = []) (hr : Room k callerA)
    (F : ∀ (w : World) (mg : Str → Option Value) (f : Addr) (h : Heap) (K : PySem.W.Frag), K.In h → SaysT fx fa fn (tl.map (·.1)) K → h.Ns mainGlobals mg → mg d.name = some (.ref f) →
      ∃ (fd : FuncData) (m : Fn), (∀ (s : Shared) (u : Value), BindsTo s fd ⟨[u], []⟩ [(x, u)]) ∧ (∀ ns : List Int, ns.length ≤ 63 → ∃ S, m [.lst (ns.map D.int)] [] = .ok (.bl true) S) ∧
        ∀ base : Heap, K.In base → base.Ns mainGlobals mg → ∀ [Tb], Tx tl K mg base → FnOk l.prog w K mg base (L2.CX l.prog w) k f fd [x] (spD (gk K mg) m)) :
    PySem.W.WalkO q loose XP (hookT i0 fx fa fn (tl.map (·.1))).says l.row.toRowW d [] (fun f vs => PySem.call f vs) := by
  refine walk_ofD (n := 63) (k := k) (x := x) hn (by rw [sizeLine_eq]; omega) hdf hr fun w mg f h Y G hm => ?_
  obtain ⟨K, KX, c⟩ := Y
  have c0 : SaysT fx fa fn (tl.map (·.1)) K := saysT_of c
  obtain ⟨fd, m, h1, h2, h3⟩ := F w mg f h K KX c0 G hm
  letI : Tb := ⟨tbl K tl, none⟩
  have of_cs : ∀ p ∈ tl.map (fun p => He.cT K p.1), ∃ z ∈ tl, He.cT K z.1 = p := fun p hp => by
    obtain ⟨z, hz, e⟩ := List.mem_map.mp hp
    exact ⟨z, hz, e⟩
  refine ⟨K, fd, tl.map fun p => He.cT K p.1, spD (gk K mg) m, KX, fun p hp => ?_, fun p hp => ?_, fun p hp => ?_, h1, fun H a ns hl hT hS => ?_, fun base hb hg htb => ?_⟩
  · obtain ⟨z, hz, rfl⟩ := of_cs p hp
    exact c.empty z.1 (List.mem_map.mpr ⟨z, hz, rfl⟩)
  · obtain ⟨z, hz, rfl⟩ := of_cs p hp
    exact c.out z.1 (List.mem_map.mpr ⟨z, hz, rfl⟩)
  · obtain ⟨z, hz, rfl⟩ := of_cs p hp
    exact PySem.W.codeHd_of_K KX (c.hd z.1 (List.mem_map.mpr ⟨z, hz, rfl⟩))
  · refine law_spX h2 H a ns hl (tabs_empty fun p hp => ?_) hS
    obtain ⟨z, hz, rfl⟩ := List.mem_map.mp hp
    exact hT (He.cT K z.1) (List.mem_map.mpr ⟨z, hz, rfl⟩)
  · refine h3 base hb hg ⟨rfl, rfl, ?_, fun p hp => htb (He.cT K p.1) (List.mem_map.mpr ⟨p, hp, rfl⟩)⟩
    have := c0.nd
    rw [List.map_map] at this
    exact this
end Dn

end
section
set_option Elab.async false
set_option linter.all false
set_option maxRecDepth 100000
set_option maxHeartbeats 4000000
/-! enumerate of a tuple, zip; `is True`. -/
namespace Dn
open PySem PySem.Spec PyProof.Rows L2
variable [Tb]
/-! ### enumerate(tuple) -/
theorem meets_enum1 {v : Value} {o : Obj} {H : Heap → Prop} (B : Begins v o H) :
    Meets (Builtin.«enumerate.__new__» ⟨[.type "enumerate", v], []⟩) (fun _ R s => H s.heap ∧
      R (.ok (.ret (.ref (s.heap.push o).objs.size))) { s with heap := (s.heap.push o).push { cls := .type "enumerate", data := .fields #[.none, .bool false, .ref s.heap.objs.size, rawInt 0, .none, .none] } }) :=
  .of_wp fun prog w A R s h => by
    obtain ⟨hp, g, d, tk, os⟩ := s
    obtain ⟨h1, h⟩ := h
    have hsub := sub_enumerate
    have q1 : ∀ {A' : Around} {E : Value → Shared → Prop} {Q : Value → Shared → Prop}, Q (.ref hp.objs.size) ⟨hp.push o, g, d, tk, os⟩ → wpAny (model prog w) A' (pyIter v) Q E ⟨hp, g, d, tk, os⟩ :=
      fun q => B.iter prog w _ _ ⟨hp, g, d, tk, os⟩ _ h1 q
    wp_walk using q1
    refine wpAny_stack_any fun st => wpAny_pure ?_
    split
    · rename_i c _ _ _ _ _
      cases (c == Value.type "enumerate")
      · wp_walk using q1
        exact ⟨_, rfl, h⟩
      · wp_walk using q1
        exact ⟨_, rfl, h⟩
    · wp_walk using q1
      exact ⟨_, rfl, h⟩
theorem call_enum1 {prog : Program} {w : World} {A : Around} {E : Value → Shared → Prop} {s : Shared} {v : Value} {o : Obj} {H : Heap → Prop} {Q : Value → Shared → Prop} (B : Begins v o H) (h1 : H s.heap)
    (h : ∀ h', IsEnum h' (s.heap.objs.size + 1) s.heap.objs.size 0 .none → h'.get? s.heap.objs.size = some o → h'.objs.size = s.heap.objs.size + 2 →
      (∀ b o, s.heap.get? b = some o → h'.get? b = some o) → Q (.ref (s.heap.objs.size + 1)) { s with heap := h' }) :
    wpAny (model prog w) A (call (.type "enumerate") [v]) Q E s := by
  refine callType_new F.called_enumerate (by decide) (F.typeCall_enumerate_1 _) (F.newCall_enumerate_1 _) (fun obj => F.args_object_init_2 obj _) F.entry_enumerate_new (meets_enum1 B) ⟨h1, ?_⟩
  have hz : (s.heap.push o).objs.size = s.heap.objs.size + 1 := Heap.size_push ..
  show _ ∧ _
  rw [hz]
  have he : IsEnum ((s.heap.push o).push { cls := .type "enumerate", data := .fields #[.none, .bool false, .ref s.heap.objs.size, rawInt 0, .none, .none] }) (s.heap.objs.size + 1) s.heap.objs.size 0 .none := by
    have := Heap.get?_push_size (s.heap.push o) (o := { cls := .type "enumerate", data := .fields #[.none, .bool false, .ref s.heap.objs.size, rawInt 0, .none, .none] }) rfl
    rw [hz] at this; exact this
  exact ⟨⟨_, he, rfl⟩, h _ he (Heap.get?_push_of_some _ (Heap.get?_push_size _ B.free)) (by rw [Heap.size_push, hz]) fun b o x => Heap.get?_push_of_some _ (Heap.get?_push_of_some _ x)⟩
def IteT (K : PySem.W.Frag) (a : Addr) : It :=
  ⟨fun i H => ∃ (xs : List V) (x : V), SqT K H a xs ∧ xs[i]? = some x, fun i H v H' => ∃ T x, v = .ref T ∧ H T = none ∧ H' = upd H T (.tup [.int (i : Nat), x]) ∧ ∀ xs, SqT K H a xs → xs[i]? = some x, fun i H => ∃ xs : List V, SqT K H a xs ∧ xs.length ≤ i⟩
theorem turn_enumT {P : Program} {w : World} {K : PySem.W.Frag} {elts : List Expr} {kk : Nat} {tpos : Pos} (a e it : Addr) :
    Turn P w K (.Tuple elts kk tpos) (IteT K a) [e, it] e (fun i h => (∃ old, IsEnum h e it ((i : Nat) : Int) old) ∧ h.IsTupleIter it a i ∧ e ≠ it) where
  mem := by simp
  obj := fun i h st b hb => by
    obtain ⟨⟨old, he⟩, ⟨o, ho, hc, hd⟩, _⟩ := st
    rcases List.mem_cons.mp hb with z | z
    · rw [z]; exact ⟨_, he, fun v q => nomatch q⟩
    · rw [List.mem_singleton.mp z]; exact ⟨o, ho, fun v q => by rw [hd] at q; cases q⟩
  keep := fun i h h' st k => let ⟨⟨old, he⟩, hi, hne⟩ := st; ⟨⟨old, k e (by simp) _ he⟩, hi.at fun o q => k it (by simp) o q, hne⟩
  item := by
    intro X hP hw hK hc i pins s z H E I hf st hg
    subst hP hw hK
    obtain ⟨⟨old, he⟩, hit, hne⟩ := st
    obtain ⟨xs, x, hq, hx⟩ := hg
    obtain ⟨its, rv, p, hz⟩ := I.tuple hq
    obtain ⟨u, hu, ru⟩ := rv.get hx
    have hel : e < s.heap.objs.size := Heap.lt_size he
    have hil : it < s.heap.objs.size := by obtain ⟨_, q, _⟩ := hit; exact Heap.lt_size q
    have pt : s.heap.IsTuple a its.toArray := p
    have nae : e ≠ a := fun z => by
      obtain ⟨o, ho, hcl, _⟩ := id pt
      rw [← z] at ho
      have he' : s.heap.get? e = some _ := he
      rw [ho] at he'
      cases he'
      have hcl : Value.type "enumerate" = Value.type "tuple" := hcl
      exact absurd hcl (by decide)
    have nai : a ≠ it := fun z => by
      obtain ⟨o, ho, hcl, _⟩ := id pt
      obtain ⟨o2, ho2, hc2, _⟩ := id hit
      rw [z] at ho
      rw [ho] at ho2
      cases ho2
      rw [hcl] at hc2
      exact absurd hc2 (by decide)
    have hii : i < its.toArray.size := by
      have := (List.getElem?_eq_some_iff.mp hu).1
      simpa using this
    refine wpAny_pyNext_enum_itemD (Draws.tuple (A := X.A.in1) (I.ok.hd hc) it a nai its.toArray) he ⟨hit, pt⟩ hii hne (by simp [hne, nae]) fun x' h' tk hP ho hst hT hsz hk => ?_
    have hxu : x' = u := by
      have hP : its.toArray[i]? = some x' := hP
      have : its[i]? = some x' := by simpa using hP
      rw [hu] at this
      exact (Option.some.inj this).symm
    subst hxu
    refine ⟨_, rfl, wpAny_letOwnedTupleGo_enum (s := { s with heap := h', toks := tk + 1 }) ho fun h'' he' sb => ?_⟩
    have hT2 : h''.get? s.heap.objs.size = some { cls := .type "tuple", data := .seq #[.int i tk, x'] } := (sb.2 _ (Nat.ne_of_gt hel)).trans hT
    have new : ObjOk X.prog X.w (upd H s.heap.objs.size (.tup [.int (i : Nat), x])) h'' s.heap.objs.size (.tup [.int (i : Nat), x]) :=
      ⟨by show 2 ≤ sizeLine; decide, [.int i tk, x'], .cons ⟨_, rfl⟩ (.cons ru .nil), ⟨_, hT2, rfl, _, rfl⟩⟩
    have I1 : Inv X pins z (upd H s.heap.objs.size (.tup [.int (i : Nat), x])) { s with heap := h'', toks := tk + 1 } :=
      I.turnedNew (ch := [e, it]) (fun b ob hb q => (sb.2 b (fun z => hb (by simp [z]))).trans (hk b ob (fun z => hb (by simp [z])) (fun z => hb (by simp [z])) q)) hf (Nat.le_refl _) new
    refine ⟨.ref s.heap.objs.size, _, I1, rfl, ⟨_, x, rfl, I.hok.fresh (Nat.le_refl _), rfl, fun ys hy => by rw [I.tuple_inj hy hq]; exact hx⟩, ⟨⟨x', ?_⟩, hst.1.at fun o q => (sb.2 it (Ne.symm hne)).trans q, hne⟩, fun b hb => ?_⟩
    · have e1 : ((i + 1 : Nat) : Int) = (i : Int) + 1 := by omega
      rw [e1]; exact he'
    · have hb' : b < s.heap.objs.size := by
        rcases List.mem_cons.mp hb with z | z
        · rw [z]; exact hel
        · rw [List.mem_singleton.mp z]; exact hil
      rw [upd_ne (Nat.ne_of_lt hb')]
      exact (hf b hb).1
  done := by
    intro X hP hw hK hc i pins s z H E I hf st hg
    subst hP hw hK
    obtain ⟨⟨old, he⟩, hit, hne⟩ := st
    obtain ⟨xs, hq, hx⟩ := hg
    obtain ⟨its, rv, p, hz⟩ := I.tuple hq
    obtain ⟨f0, f1, f2, f3, f4, f5⟩ := hf it (by simp)
    have hl := rv.length
    have pt : s.heap.IsTuple a its.toArray := p
    have nai : a ≠ it := fun z => by
      obtain ⟨o, ho, hcl, _⟩ := id pt
      obtain ⟨o2, ho2, hc2, _⟩ := id hit
      rw [z] at ho
      rw [ho] at ho2
      cases ho2
      rw [hcl] at hc2
      exact absurd hc2 (by decide)
    have hT : s.TypeIs (.ref e) "enumerate" := ⟨_, he, rfl⟩
    unfold pyNext
    refine wpAny_bind (wpAny_attempt (wpAny_callSpecial?_slot (name := Str.ofString "__next__") hT F.slot_enumerate_next
      (wpAny_call_entry F.slot_enumerate_next hT F.entry_enumerate_next ?_ (F.args_enumerate_next_1 _))))
    show wpAny _ _ (field (.ref e) 2 >>= _) _ _ _
    refine wpAny_bind (wpAny_field he rfl (x := .ref it) rfl ?_)
    refine wpAny_bind (wpAny_nextOf_tuple_end (I.ok.hd hc) hit pt (by simp; omega) fun h' x he' hx' => ?_)
    obtain ⟨o, ho, hcl⟩ := hx'
    refine wpAny_bind (wpAny_isInstance (T := "StopIteration") (b := true) ⟨o, ho, hcl⟩ isSubtype_stop ?_)
    exact wpAny_pure ⟨rfl, I.turned (t' := s.toks) (fun b o hb q => he' b o hb q) f0 f1 f3 f4 f5⟩
  self := fun A i s Q E st h => let ⟨⟨_, he⟩, _⟩ := st; wpAny_pyIter_enum he h
/-- enumerate of a list or a tuple -/
def iEnumA (K : PySem.W.Frag) (ta : TA) : TI := fun s H R => ta s H fun vs H1 => ∃ a xs, vs = [.ref a] ∧ ((SqL K H1 a xs ∧ (xs.length ≤ sizeLine → R (Ite K a) H1)) ∨ (SqT K H1 a xs ∧ (xs.length ≤ sizeLine → R (IteT K a) H1)))
theorem pi_enumA {X : Cx} {e : Expr} {ta : TA} {p pos tpos : Pos} {elts : List Expr} {kk : Nat} (hg : Gl X "enumerate") (hm : X.mg "enumerate" = none) (ha : PA X [e] ta) (hs : starEach [e] X.env = [(false, eval e X.env)] := by rfl) :
    PI X (.Tuple elts kk tpos) (.Call (.Name "enumerate" p) [e] [] pos) (iEnumA X.K ta) := by
  refine ⟨fun pins s z H R I h => ?_⟩
  refine Call_ (ld_blt I hg hm boot_enumerate (PyProof.Rows.callWith_type1 (thn (ha.run pos pins s z H _ I h) fun us s1 ⟨vs, H1, I1, r1, q1⟩ => ?_) hs rfl))
  obtain ⟨a, xs, ex, q1⟩ := q1
  subst ex
  cases r1 with
  | cons r rr =>
    cases rr
    cases r
    have fresh : ∀ b, b ∈ [s1.heap.objs.size + 1, s1.heap.objs.size] → s1.heap.objs.size ≤ b := fun b hb => by
      rcases List.mem_cons.mp hb with z | z
      · rw [z]; exact Nat.le_add_right _ _
      · rw [List.mem_singleton.mp z]; exact Nat.le_refl _
    rcases q1 with ⟨hq, q⟩ | ⟨hq, q⟩
    · obtain ⟨its, rv, p', hz⟩ := I1.list hq
      refine call_enumerate_list p'.isList fun h' he hit hsz hk => wpAny_pyIter_enum he ?_
      have I2 : Inv X pins z H1 { s1 with heap := h' } := I1.kept (t' := s1.toks) hk
      exact ⟨s1.heap.objs.size + 1, [s1.heap.objs.size + 1, s1.heap.objs.size], _, _, H1, rfl, I2, turn_enum a (s1.heap.objs.size + 1) s1.heap.objs.size, ⟨⟨.none, he⟩, hit, Nat.succ_ne_self _⟩, fun b hb => I1.fpOk (fresh b hb) (I1.hok.fresh (fresh b hb)), q hz⟩
    · obtain ⟨its, rv, p', hz⟩ := I1.tuple hq
      refine call_enum1 (begins_tuple a its.toArray) (show s1.heap.IsTuple a its.toArray from p') fun h' he hit hsz hk => wpAny_pyIter_enum he ?_
      have I2 : Inv X pins z H1 { s1 with heap := h' } := I1.kept (t' := s1.toks) hk
      exact ⟨s1.heap.objs.size + 1, [s1.heap.objs.size + 1, s1.heap.objs.size], _, _, H1, rfl, I2, turn_enumT a (s1.heap.objs.size + 1) s1.heap.objs.size, ⟨⟨.none, he⟩, ⟨_, hit, rfl, rfl⟩, Nat.succ_ne_self _⟩, fun b hb => I1.fpOk (fresh b hb) (I1.hok.fresh (fresh b hb)), q hz⟩
theorem walk_enumT {G : Gx} {M : Mp} {p : Addr} {vs : List V} {xs : List D} (h1 : M.tup p = some vs ∨ SqT G.K noHp p vs) (h2 : RelDs G M xs vs) : WalkOk G M (IteT G.K p) (wkS (enumD 0 xs)) := by
  intro i M1 S H le rh _
  have hs : SqT G.K H p vs := by
    rcases h1 with h1 | h1
    · exact .inl (.inl (rh.tup p vs (le.tup p vs h1)))
    · rcases h1 with z | z
      · rcases z with z | ⟨_, z⟩ <;> cases z
      · exact .inr z
  refine ⟨fun hi => ?_, fun hi => ⟨vs, hs, by rw [← h2.len]; have hi : (enumD 0 xs).length ≤ i := hi; rw [enumD_len] at hi; exact hi⟩⟩
  have hi : i < (enumD 0 xs).length := hi
  rw [enumD_len] at hi
  obtain ⟨d, hd⟩ : ∃ d, xs[i]? = some d := ⟨xs[i], by simp [hi]⟩
  obtain ⟨v, hv, rv⟩ := h2.get hd
  refine ⟨⟨vs, v, hs, hv⟩, fun x H' y => ?_⟩
  obtain ⟨T, z, rfl, hT, rfl, y⟩ := y
  have := y vs hs
  rw [hv] at this
  cases this
  have rds : RelDs G M1 [.int (i : Nat), d] [.int (i : Nat), v] := RelDs.cons rfl (RelDs.cons (RelD.le le rv) rfl)
  obtain ⟨M2, x1, x2, x3⟩ := Ext.tupNew rh hT rds
  refine ⟨M2, .tup [.int (i : Nat), d], x1, x2, ?_, x3⟩
  show (enumD 0 xs)[i]? = _
  rw [enumD_at, hd]
  simp
section
variable {X : Cx} {W : WX} {tg e a b : Expr} {da db : DE} {pos : Pos}
theorem si_enumA (h : PI X tg e (iEnumA X.K (tCons (tE (gx X) W da) tNil))) : SI X W tg e (iEnumAD da) := by
  refine PI_dimp h ?_
  rintro s H Q ⟨M, r, S, en, rh, p⟩
  refine ⟨M, r, S, en, rh, p.bind.imp fun v H1 h => ?_⟩
  obtain ⟨M1, x, S1, e1, rh1, rd1, p1⟩ := h
  have go : ∀ {w : Wk}, wkL S1 x = some w → Post (gx X) (RW (gx X)) W M1 H1 s (.ok ⟨enumD 0 w.xs, w.ok⟩ S1) Q → ∃ a xs, [v] = [.ref a] ∧ ((SqL X.K H1 a xs ∧ (xs.length ≤ sizeLine → Q (Ite X.K a) H1)) ∨ (SqT X.K H1 a xs ∧ (xs.length ≤ sizeLine → Q (IteT X.K a) H1))) := fun {w} hw p1 => by
    obtain ⟨q, vs, rfl, h1, h2, h3⟩ := lst_at rh1 rd1 hw
    exact ⟨q, vs, rfl, .inl ⟨h2, fun hz => p1 M1 _ H1 Ext.refl rh1 ⟨walk_enum h1, by show (enumD 0 w.xs).length ≤ sizeLine; rw [enumD_len, h3.len]; exact hz⟩⟩⟩
  cases x with
  | tup xs =>
    obtain ⟨q, vs, rfl, h1, h2⟩ := rd1
    have h3 : SqT X.K H1 q vs := by
      rcases h1 with h1 | h1
      · exact .inl (.inl (rh1.tup q vs h1))
      · rcases h1 with z | z
        · rcases z with z | ⟨_, z⟩ <;> cases z
        · exact .inr z
    exact ⟨q, vs, rfl, .inr ⟨h3, fun hz => p1 M1 _ H1 Ext.refl rh1 ⟨walk_enumT h1 h2, by show (enumD 0 xs).length ≤ sizeLine; rw [enumD_len, h2.len]; exact hz⟩⟩⟩
  | lst xs => exact go rfl p1
  | ref l =>
    cases q : wkOf S1 (.ref l) with
    | none => rw [q] at p1; exact p1.elim
    | some w => rw [q] at p1; exact go q p1
  | _ => exact p1.elim
end
/-! ### zip -/
theorem zipD_at : ∀ (xs ys : List D) (i : Nat), (zipD xs ys)[i]? = (xs[i]?).bind fun x => (ys[i]?).map fun y => .tup [x, y]
  | [], ys, i => by cases ys <;> simp [zipD]
  | x :: xs, [], i => by cases i <;> simp [zipD]
  | x :: xs, y :: ys, 0 => by simp [zipD]
  | x :: xs, y :: ys, i + 1 => by
    simp only [zipD, List.getElem?_cons_succ]
    exact zipD_at xs ys i
theorem zipD_len : ∀ (xs ys : List D), (zipD xs ys).length = min xs.length ys.length
  | [], ys => by simp [zipD]
  | x :: xs, [] => by simp [zipD]
  | x :: xs, y :: ys => by simp [zipD, zipD_len xs ys]
theorem walk_zip {G : Gx} {M : Mp} {p q : Addr} {w1 w2 : Wk} (hl : LstAt G M w1 p) (hr : LstAt G M w2 q) : WalkOk G M (Itz G.K p q) ⟨zipD w1.xs w2.xs, fun S => w1.ok S ∧ w2.ok S⟩ := by
  intro i M1 S H le rh hk
  obtain ⟨vs, hs, h2⟩ := hl M1 S H le rh hk.1
  obtain ⟨us, ht, h3⟩ := hr M1 S H le rh hk.2
  refine ⟨fun hi => ?_, fun hi => ⟨vs, us, hs, ht, by rw [← h2.len, ← h3.len]; have hi : (zipD w1.xs w2.xs).length ≤ i := hi; rw [zipD_len] at hi; omega⟩⟩
  have hi : i < (zipD w1.xs w2.xs).length := hi
  rw [zipD_len] at hi
  obtain ⟨d, hd⟩ : ∃ d, w1.xs[i]? = some d := ⟨w1.xs[i]'(by omega), List.getElem?_eq_getElem _⟩
  obtain ⟨d2, hd2⟩ : ∃ d, w2.xs[i]? = some d := ⟨w2.xs[i]'(by omega), List.getElem?_eq_getElem _⟩
  obtain ⟨v, hv, rv⟩ := h2.get hd
  obtain ⟨u, hu, ru⟩ := h3.get hd2
  refine ⟨⟨vs, us, v, u, hs, ht, hv, hu⟩, fun x H' y => ?_⟩
  obtain ⟨T, z, z2, rfl, hT, rfl, y1, y2⟩ := y
  have e1 := y1 vs hs
  have e2 := y2 us ht
  rw [hv] at e1
  rw [hu] at e2
  cases e1
  cases e2
  obtain ⟨M2, x1, x2, x3⟩ := Ext.tupNew rh hT (RelDs.cons rv (RelDs.cons ru RelDs.nil))
  refine ⟨M2, .tup [d, d2], x1, x2, ?_, x3⟩
  show (zipD w1.xs w2.xs)[i]? = _
  rw [zipD_at, hd, hd2]
  rfl
theorem tup_sq {G : Gx} {M M1 : Mp} {S : Store} {H : Hp} {p : Addr} {vs : List V} (h : M.tup p = some vs ∨ SqT G.K noHp p vs) (le : Le M M1) (rh : RelH G M1 S H) : SqT G.K H p vs := by
  rcases h with h1 | h1
  · exact .inl (.inl (rh.tup p vs (le.tup p vs h1)))
  · rcases h1 with z | z
    · rcases z with z | ⟨_, z⟩ <;> cases z
    · exact .inr z
theorem walk_zipT {G : Gx} {M : Mp} {p q : Addr} {vs us : List V} {xs ys : List D} (h1 : M.tup p = some vs ∨ SqT G.K noHp p vs) (h2 : RelDs G M xs vs) (h3 : M.tup q = some us ∨ SqT G.K noHp q us) (h4 : RelDs G M ys us) : WalkOk G M (RZ.ItzT G.K p q) (wkS (zipD xs ys)) := by
  intro i M1 S H le rh hk
  have hs := tup_sq h1 le rh
  have ht := tup_sq h3 le rh
  refine ⟨fun hi => ?_, fun hi => ⟨vs, us, hs, ht, by rw [← h2.len, ← h4.len]; have hi : (zipD xs ys).length ≤ i := hi; rw [zipD_len] at hi; omega⟩⟩
  have hi : i < (zipD xs ys).length := hi
  rw [zipD_len] at hi
  obtain ⟨d, hd⟩ : ∃ d, xs[i]? = some d := ⟨xs[i]'(by omega), List.getElem?_eq_getElem _⟩
  obtain ⟨d2, hd2⟩ : ∃ d, ys[i]? = some d := ⟨ys[i]'(by omega), List.getElem?_eq_getElem _⟩
  obtain ⟨v, hv, rv⟩ := h2.get hd
  obtain ⟨u, hu, ru⟩ := h4.get hd2
  refine ⟨⟨vs, us, v, u, hs, ht, hv, hu⟩, fun x H' y => ?_⟩
  obtain ⟨T, z, z2, rfl, hT, rfl, y1, y2⟩ := y
  have e1 := y1 vs hs
  have e2 := y2 us ht
  rw [hv] at e1
  rw [hu] at e2
  cases e1
  cases e2
  obtain ⟨M2, x1, x2, x3⟩ := Ext.tupNew rh hT (RelDs.cons (RelD.le le rv) (RelDs.cons (RelD.le le ru) RelDs.nil))
  refine ⟨M2, .tup [d, d2], x1, x2, ?_, x3⟩
  show (zipD xs ys)[i]? = _
  rw [zipD_at, hd, hd2]
  rfl
section
variable {X : Cx} {W : WX} {tg e a b : Expr} {da db : DE} {pos pos' : Pos}
theorem si_zip (h : PI X tg e (RZ.iZipA X.K (tCons (tE (gx X) W da) (tCons (tE (gx X) W db) tNil)))) : SI X W tg e (iZipD da db) := by
  refine PI_dimp h ?_
  rintro s H Q ⟨M, r, S, en, rh, p⟩
  refine ⟨M, r, S, en, rh, (bind2 en p).imp fun v H1 h => ?_⟩
  obtain ⟨M1, S1, e1, rh1, en1, p1⟩ := h
  refine ⟨M1, r, S1, en1, rh1, p1.imp fun u H2 h => ?_⟩
  obtain ⟨M2, x, y, S2, e2, rh2, en2, rd1, rd2, p2⟩ := h
  have lists : ∀ {w1 w2 : Wk}, wkL S2 x = some w1 → wkL S2 y = some w2 → (zipD w1.xs w2.xs).length ≤ sizeLine → Post (gx X) (RW (gx X)) W M2 H2 s (.ok ⟨zipD w1.xs w2.xs, fun S => w1.ok S ∧ w2.ok S⟩ S2) Q →
      ∃ a b xs ys, [v, u] = [V.ref a, V.ref b] ∧ ((SqL X.K H2 a xs ∧ SqL X.K H2 b ys ∧ Q (Itz X.K a b) H2) ∨ (SqT X.K H2 a xs ∧ SqT X.K H2 b ys ∧ Q (RZ.ItzT X.K a b) H2)) := fun {w1 w2} h1 h2 hz p => by
    obtain ⟨q1, vs, rfl, k1, k2, k3⟩ := lst_at rh2 rd1 h1
    obtain ⟨q2, us, rfl, l1, l2, l3⟩ := lst_at rh2 rd2 h2
    exact ⟨q1, q2, vs, us, rfl, .inl ⟨k2, l2, p M2 _ H2 Ext.refl rh2 ⟨walk_zip k1 l1, hz⟩⟩⟩
  have gen : (wkL S2 x).bind (fun w => (wkL S2 y).map fun v => (⟨zipD w.xs v.xs, fun S => w.ok S ∧ v.ok S⟩ : Wk)) = wkZ S2 x y → 
      ∃ a b xs ys, [v, u] = [V.ref a, V.ref b] ∧ ((SqL X.K H2 a xs ∧ SqL X.K H2 b ys ∧ Q (Itz X.K a b) H2) ∨ (SqT X.K H2 a xs ∧ SqT X.K H2 b ys ∧ Q (RZ.ItzT X.K a b) H2)) := fun e => by
    rw [← e] at p2
    cases h1 : wkL S2 x with
    | none => rw [h1] at p2; exact p2.elim
    | some w1 =>
      cases h2 : wkL S2 y with
      | none => rw [h1, h2] at p2; exact p2.elim
      | some w2 =>
        rw [h1, h2] at p2
        dsimp only [Option.bind_some, Option.map_some] at p2
        split at p2
        · rename_i hz
          exact lists h1 h2 hz p2
        · exact p2.elim
  cases x with
  | tup xs =>
    cases y with
    | tup ys =>
      dsimp only [wkZ] at p2
      split at p2
      · rename_i hz
        obtain ⟨q1, vs, rfl, h1, h2⟩ := rd1
        obtain ⟨q2, us, rfl, h3, h4⟩ := rd2
        exact ⟨q1, q2, vs, us, rfl, .inr ⟨tup_sq h1 Le.refl rh2, tup_sq h3 Le.refl rh2, p2 M2 _ H2 Ext.refl rh2 ⟨walk_zipT h1 h2 h3 h4, hz⟩⟩⟩
      · exact p2.elim
    | _ => exact gen rfl
  | _ => exact gen rfl
/-! ### is True, is False -/
def rIsBl : R2 := fun x y H Q => ∃ a b, x = .bl a ∧ y = .bl b ∧ Q (.bl (decide (a = b))) H
def rNotBl : R2 := fun x y H Q => ∃ a b, x = .bl a ∧ y = .bl b ∧ Q (.bl (!decide (a = b))) H
theorem isB_t {G : Gx} {b : Bool} {s : L2.St} {H : Hp} {Q : VK} (h : tE G W (eCmp1 (cmpIsT b) da) s H Q) : tOp rIsBl (tE G W da) (tC (.bl b)) s H Q := by
  obtain ⟨M, r, S, en, rh, p⟩ := h
  refine ⟨M, r, S, en, rh, (Post.bind (R := RD G) p).imp fun v H1 h => ?_⟩
  obtain ⟨M1, x, S1, e1, rh1, rd1, p1⟩ := h
  cases x with
  | bl c =>
    cases (show _ = _ from rd1)
    exact ⟨c, b, rfl, rfl, p1 M1 _ H1 Ext.refl rh1 (by show _ = V.bl (c == b); cases c <;> cases b <;> rfl)⟩
  | _ => exact p1.elim
theorem notB_t {G : Gx} {b : Bool} {s : L2.St} {H : Hp} {Q : VK} (h : tE G W (eCmp1 (fun x => (cmpIsT b x).map (!·)) da) s H Q) : tOp rNotBl (tE G W da) (tC (.bl b)) s H Q := by
  obtain ⟨M, r, S, en, rh, p⟩ := h
  refine ⟨M, r, S, en, rh, (Post.bind (R := RD G) p).imp fun v H1 h => ?_⟩
  obtain ⟨M1, x, S1, e1, rh1, rd1, p1⟩ := h
  cases x with
  | bl c =>
    cases (show _ = _ from rd1)
    exact ⟨c, b, rfl, rfl, p1 M1 _ H1 Ext.refl rh1 (by show _ = V.bl (!(c == b)); cases c <;> cases b <;> rfl)⟩
  | _ => exact p1.elim
theorem se_isB {b : Bool} {j} (ha : SE X W a da) : SE X W (.Compare a [.Is] [.Constant (.bool b) j pos'] pos) (eCmp1 (cmpIsT b) da) := (pe_cmpR (r := rIsBl) op_is_bl ha pe_bl (nomark _)).dimp fun _ _ _ => isB_t
theorem se_notB {b : Bool} {j} (ha : SE X W a da) : SE X W (.Compare a [.IsNot] [.Constant (.bool b) j pos'] pos) (eCmp1 (fun x => (cmpIsT b x).map (!·)) da) := (pe_cmpR (r := rNotBl) op_isnot_bl ha pe_bl (nomark _)).dimp fun _ _ _ => notB_t
theorem st_isB {b : Bool} {j} (ha : SE X W a da) : ST X W (.Compare a [.Is] [.Constant (.bool b) j pos'] pos) (tOfB (eCmp1 (cmpIsT b) da)) := (pt_cmpR (r := rIsBl) op_is_bl ha pe_bl (nomark _)).dimp fun _ _ _ h => isB_t (tofb_t h)
theorem st_notB {b : Bool} {j} (ha : SE X W a da) : ST X W (.Compare a [.IsNot] [.Constant (.bool b) j pos'] pos) (tOfB (eCmp1 (fun x => (cmpIsT b x).map (!·)) da)) := (pt_cmpR (r := rNotBl) op_isnot_bl ha pe_bl (nomark _)).dimp fun _ _ _ h => notB_t (tofb_t h)
end
end Dn

end
section
set_option Elab.async false
set_option linter.all false
set_option maxRecDepth 100000
set_option maxHeartbeats 4000000
/-! Further small rules: range with a step. -/
namespace Dn
open PySem PySem.Spec PyProof.Rows L2 LamX
def rangeC (lo c : Int) (n : Nat) : List D := (List.range n).map fun (k : Nat) => D.int (lo + (k : Int) * c)
def rg3 (i j k : Int) : Option Wk := if decide (k ≠ 0) && decide (k.natAbs < 1073741824) && Builtin.Range.small i j k && decide (0 ≤ Builtin.Range.rangeSize i j k) && decide ((Builtin.Range.rangeSize i j k).toNat ≤ sizeLine) then some (wkS (rangeC i k (Builtin.Range.rangeSize i j k).toNat)) else none
def iRange3 (a b c : DE) : DI := fun r S => (a r S).bind fun x S => (b r S).bind fun y S => (c r S).bind fun z S => match x, y, z with
  | .int i, .int j, .int k => Rs.ofO (rg3 i j k) S
  | _, _, _ => .bad
variable [Tb]
section
variable {X : Cx} {W : WX} {tg e : Expr} {da db dc : DE}
theorem bind3 {a b : Type} {G : Gx} {M : Mp} {r : Rho} {S : Store} {H : Hp} {s : L2.St} {R : Mp → Hp → a → b → Prop} {f : D → D → D → Store → Rs a} {Q : b → Hp → Prop} (en : EnvR G M H r s)
    (p : Post G R W M H s ((da r S).bind fun x S => (db r S).bind fun y S => (dc r S).bind fun z S => f x y z S) Q) :
    Post G (RD G) W M H s (da r S) fun v H1 => ∃ M1 S1, Ext M H M1 H1 ∧ RelH G M1 S1 H1 ∧ EnvR G M1 H1 r s ∧ Post G (RD G) W M1 H1 s (db r S1) fun u H2 => ∃ M2 S2, Ext M1 H1 M2 H2 ∧ RelH G M2 S2 H2 ∧ EnvR G M2 H2 r s ∧
      Post G (RD G) W M2 H2 s (dc r S2) fun w H3 => ∃ M3 x y z S3, Ext M2 H2 M3 H3 ∧ RelH G M3 S3 H3 ∧ EnvR G M3 H3 r s ∧ RelD G M3 x v ∧ RelD G M3 y u ∧ RelD G M3 z w ∧ Post G R W M3 H3 s (f x y z S3) Q := by
  refine p.bind.imp fun v H1 h => ?_
  obtain ⟨M1, x, S1, e1, rh1, rd1, p1⟩ := h
  refine ⟨M1, S1, e1, rh1, en.mono e1, p1.bind.imp fun u H2 h => ?_⟩
  obtain ⟨M2, y, S2, e2, rh2, rd2, p2⟩ := h
  refine ⟨M2, S2, e2, rh2, (en.mono e1).mono e2, p2.bind.imp fun w H3 h => ?_⟩
  obtain ⟨M3, z, S3, e3, rh3, rd3, p3⟩ := h
  exact ⟨M3, x, y, z, S3, e3, rh3, ((en.mono e1).mono e2).mono e3, (rd1.mono e2).mono e3, rd2.mono e3, rd3, p3⟩
theorem walk_rangeC {G : Gx} {M : Mp} (lo c : Int) (n : Nat) : WalkOk G M (Itc lo c n) (wkS (rangeC lo c n)) := by
  intro i M1 S H le rh _
  have hl : (wkS (rangeC lo c n)).xs.length = n := by simp [rangeC, wkS]
  refine ⟨fun h => ?_, fun h => by show n ≤ i; omega⟩
  refine ⟨by show i < n; omega, fun x H' y => ?_⟩
  obtain ⟨rfl, rfl⟩ := y
  refine ⟨M1, .int (lo + (i : Nat) * c), Ext.refl, rh, ?_, rfl⟩
  rw [hl] at h
  simp [rangeC, wkS, h]
theorem si_range3 (h : PI X tg e (iRng3 (tCons (tE (gx X) W da) (tCons (tE (gx X) W db) (tCons (tE (gx X) W dc) tNil))))) : SI X W tg e (iRange3 da db dc) := by
  refine PI_dimp h ?_
  rintro s H Q ⟨M, r, S, en, rh, p⟩
  refine ⟨M, r, S, en, rh, (bind3 en p).imp fun v H1 h => ?_⟩
  obtain ⟨M1, S1, e1, rh1, en1, p1⟩ := h
  refine ⟨M1, r, S1, en1, rh1, p1.imp fun u H2 h => ?_⟩
  obtain ⟨M2, S2, e2, rh2, en2, p2⟩ := h
  refine ⟨M2, r, S2, en2, rh2, p2.imp fun w H3 h => ?_⟩
  obtain ⟨M3, x, y, z, S3, e3, rh3, en3, rd1, rd2, rd3, p3⟩ := h
  split at p3
  · rename_i i j k
    cases (show _ = _ from rd1)
    cases (show _ = _ from rd2)
    cases (show _ = _ from rd3)
    unfold rg3 at p3
    split at p3
    · rename_i hc
      simp only [Bool.and_eq_true, decide_eq_true_eq] at hc
      obtain ⟨⟨⟨⟨h1, h2⟩, h3⟩, h4⟩, h5⟩ := hc
      exact ⟨i, j, k, _, rfl, ⟨h1, h2, h3, by omega⟩, p3 M3 _ H3 Ext.refl rh3 ⟨walk_rangeC i k _, by simp only [wkS, rangeC, List.length_map, List.length_range]; exact h5⟩⟩
    · exact p3.elim
  · exact p3.elim
end
end Dn

end
section
set_option Elab.async false
set_option linter.all false
set_option maxRecDepth 100000
set_option maxHeartbeats 4000000
/-! (.., xs[k]) = a, b -/
namespace Dn
open PySem PySem.Spec PyProof.Rows L2 LamX
def putAt (i : Nat) (dk : DE) (y : D) : DS := fun r S => match r[i]? with
  | some (.own _) => (dk r S).toS r fun n S => (match n, r[i]? with
    | .int j, some (.own xs) => (match place xs.length j with
      | some m => .next (r.set i (.own (xs.set m y))) S
      | none => .bad)
    | _, _ => .bad)
  | _ => .bad
def sAsgPut (da db : DE) (g : DG) (i : Nat) (dk : DE) : DS := fun r S => (da r S).toS r fun x S => (db r S).toS r fun y S => match g x r S with
  | some r' => putAt i dk y r' S
  | none => .bad
variable [Tb]
section
variable {X : Cx} {M0 : Mp} {H0 : Hp} {W : WX} {tg e : Expr} {da db dk : DE} {pos : Pos} {i : Nat} {is : List Nat} {g1 : TG} {d1 : DG}
theorem ss_asgPut (la : LamAt (gx X) H0) (he : SE X W e (eTup (aCons da (aCons db aNil)))) (hg : PG X tg (gTup X.K 2 (gCons g1 (gCons (gSub (tVar i) (tE (gx X) W dk) rSetL) gNil)))) (k : GOk (gx X) is g1 d1)
    (hs : swapsWithSole [tg] e pos.line X.env = pure false := by rfl) (hw : swappedStores [tg] e X.env = pure none := by rfl) (h1 : (assignEach [tg] X.env).map (·.2) = [assign tg X.env] := by rfl) : SS X M0 H0 W (.Assign [tg] e pos) (sAsgPut da db d1 i dk) := by
  refine (ps_asg he hg hs hw h1).dimp ?_
  rintro D s H ⟨M, r, S, w, p⟩
  have p : PostS (gx X) M0 H0 W M (((eTup (aCons da (aCons db aNil))) r S).toS r fun v S => match v with
      | .tup [x, y] => (match d1 x r S with
        | some r' => putAt i dk y r' S
        | none => .bad)
      | _ => .bad) D := by
    unfold sAsgPut at p
    unfold eTup aCons aNil
    cases q1 : da r S with
    | ok x S1 =>
      rw [q1] at p
      simp only [Rs.toS_ok] at p
      simp only [Rs.bind_ok]
      cases q2 : db r S1 with
      | ok y S2 =>
        rw [q2] at p
        simp only [Rs.toS_ok] at p
        have hz : 2 ≤ sizeLine := by rw [sizeLine_eq]; omega
        simpa [hz] using p
      | exc c fs S2 => rw [q2] at p; simpa using p
      | bad => rw [q2] at p; simpa using p
    | exc c fs S1 => rw [q1] at p; simpa using p
    | bad => rw [q1] at p; simpa using p
  refine ⟨M, r, S, w.env, w.heap, (PostS.toS (R := RD (gx X)) w p).imp fun v H1 h => ?_⟩
  obtain ⟨M1, d, S1, w1, e1, rv, p1⟩ := h
  split at p1
  · rename_i x y
    obtain ⟨pa, vs, rfl, q1, q2⟩ := tup_ok w1.heap rv
    obtain ⟨v1, r1, rfl, rx, rr⟩ := q2
    obtain ⟨v2, r2, rfl, ry, rn⟩ := rr
    cases (show _ = _ from rn)
    refine ⟨pa, [v1, v2], rfl, q1, rfl, v1, [v2], rfl, ?_⟩
    cases q : d1 x r S1 with
    | none => rw [q] at p1; exact p1.elim
    | some r' =>
      rw [q] at p1
      dsimp only at p1
      refine k M1 H1 r r' s S1 x v1 _ w1.env.len w1.heap rx q fun s2 u => ?_
      have w2 := w1.upd u
      refine ⟨v2, [], rfl, ?_⟩
      unfold putAt at p1
      cases q3 : r'[i]? with
      | none => rw [q3] at p1; exact p1.elim
      | some z =>
        rw [q3] at p1
        cases z with
        | own xs =>
          dsimp only at p1
          obtain ⟨u', f1, a, vs, rfl, f2, f3, f4, f5⟩ := w2.env.sl i _ q3
          refine ⟨.ref a, f1, M1, r', S1, w2.env, w2.heap, (PostS.toS (R := RD (gx X)) w2 p1).imp fun z2 H3 h => ?_⟩
          obtain ⟨M3, n, S3, w3, e3, rn, p3⟩ := h
          split at p3
          · rename_i j xs' hj
            cases hj
            cases (show _ = _ from rn)
            obtain ⟨u3, g1', a', vs', g2, g3, g4, g5, g6⟩ := w3.env.sl i _ q3
            rw [f1] at g1'; cases g1'; cases g2
            split at p3
            · rename_i m hm
              exact ⟨a, vs', j, m, rfl, rfl, g3, by rw [← g4.len]; exact hm, rfl, p3 M3 s2 _ (w3.ownPut la q3 f1 g3 (g4.set m (RelD.mono e3 ry))) Le.refl⟩
            · exact p3.elim
          · exact p3.elim
        | un => exact p1.elim
        | val _ => exact p1.elim
        | ownd _ _ => exact p1.elim
        | exc _ _ => exact p1.elim
        | lam => exact p1.elim
  · exact p1.elim
end
end Dn

end
section
set_option Elab.async false
set_option linter.all false
set_option maxRecDepth 100000
set_option maxHeartbeats 4000000
/-! a, b = x, y and a, b, c = x, y, z: values and new lists of one's own. -/
namespace Dn
open PySem PySem.Spec PyProof.Rows L2 LamX
/-- what is stored: a value, a new list of its own -/
inductive Itm where
  | v (d : DE) | o (d : DA)
def itemsD : List Itm → Rho → Store → Rs (List Sl)
  | [], _, S => .ok [] S
  | .v d :: l, r, S => (d r S).bind fun x S => (itemsD l r S).bind fun xs S => .ok (.val x :: xs) S
  | .o d :: l, r, S => (d r S).bind fun x S => (itemsD l r S).bind fun xs S => .ok (.own x :: xs) S
def putAll : List Nat → List Sl → Rho → Option Rho
  | [], [], r => some r
  | i :: is, x :: xs, r => if i < r.length then putAll is xs (r.set i x) else none
  | _, _, _ => none
def sParG (is : List Nat) (l : List Itm) : DS := fun r S => (itemsD l r S).toS r fun xs S => match putAll is xs r with
  | some r' => .next r' S
  | none => .bad
variable [Tb]
/-- how an item lies; p0: what must not stand there -/
def ItR (G : Gx) (H0 : Hp) (M : Mp) (H : Hp) : Sl → V → Prop
  | .val d, v => RelD G M d v
  | .own ds, v => RN G H0 M H ds v
  | _, _ => False
def ItRs (G : Gx) (H0 : Hp) (M : Mp) (H : Hp) : List Sl → List V → Prop
  | [], vs => vs = []
  | x :: xs, vs => ∃ v r, vs = v :: r ∧ ItR G H0 M H x v ∧ ItRs G H0 M H xs r ∧ ∀ ys p, x = .own ys → v = .ref p → ∀ (j : Nat) (zs : List D), xs[j]? = some (.own zs) → r[j]? ≠ some (.ref p)
section
variable {G : Gx} {M0 M M1 : Mp} {H0 H H1 : Hp} {r : Rho} {S : Store} {s : L2.St}
theorem RN.fwd {Hs H H' : Hp} {M M' : Mp} {ds : List D} {v : V} (e : Ext M H M' H') (h : RN G Hs M H ds v) : RN G Hs M' H' ds v := by
  obtain ⟨p, vs, rfl, h1, h2, h3, h4, h5⟩ := h
  refine ⟨p, vs, rfl, e.keep p _ h1 h3 (fun _ z => by cases z), h2.mono e, fun l q => ?_, ?_, h5⟩
  · rcases e.new l p q with z | z
    · exact h3 l z
    · rw [h1] at z; cases z
  · cases q : M'.lst p with
    | none => rfl
    | some x =>
      rcases e.newl p x q with z | z
      · rw [h4] at z; cases z
      · rw [h1] at z; cases z
theorem RN.back {Hs Ht H : Hp} {M : Mp} {ds : List D} {v : V} (h : RN G Ht M H ds v) (k : ∀ p, Ht p = none → Hs p = none) : RN G Hs M H ds v := by
  obtain ⟨p, vs, rfl, h1, h2, h3, h4, h5⟩ := h
  exact ⟨p, vs, rfl, h1, h2, h3, h4, k p h5⟩
theorem none_back {M M' : Mp} {H H' : Hp} (e : Ext M H M' H') {p : Addr} (h : H' p = none) : H p = none := by
  cases q : H p with
  | none => rfl
  | some o =>
    obtain ⟨o', h'⟩ := e.there p o q
    rw [h] at h'; cases h'
theorem ItR.fwd {Hs H H' : Hp} {M M' : Mp} {x : Sl} {v : V} (e : Ext M H M' H') (h : ItR G Hs M H x v) : ItR G Hs M' H' x v := by
  cases x with
  | val d => exact RelD.mono e h
  | own ds => exact RN.fwd e h
  | _ => exact h
theorem ItRs.back {Hs Ht H : Hp} {M : Mp} : ∀ {xs : List Sl} {vs : List V}, ItRs G Ht M H xs vs → (∀ p, Ht p = none → Hs p = none) → ItRs G Hs M H xs vs
  | [], _, h, _ => h
  | x :: xs, _, h, k => by
    obtain ⟨v, r, rfl, h1, h2, h3⟩ := h
    refine ⟨v, r, rfl, ?_, ItRs.back h2 k, h3⟩
    cases x with
    | own ds => exact RN.back h1 k
    | _ => exact h1
/-- an own one of them did not stand at Ht -/
theorem ItRs.fresh {Ht H : Hp} {M : Mp} : ∀ {xs : List Sl} {vs : List V}, ItRs G Ht M H xs vs → ∀ (j : Nat) (zs : List D) (p : Addr), xs[j]? = some (.own zs) → vs[j]? = some (.ref p) → Ht p = none
  | [], _, h, j, zs, p, q, _ => by simp at q
  | x :: xs, _, h, j, zs, p, q, q2 => by
    obtain ⟨v, r, rfl, h1, h2, h3⟩ := h
    cases j with
    | zero =>
      simp at q q2
      subst q q2
      obtain ⟨a, vs, e, _, _, _, _, h5⟩ := h1
      cases e
      exact h5
    | succ j => exact ItRs.fresh h2 j zs p (by simpa using q) (by simpa using q2)
/-- the readings of the items -/
inductive SItm (X : Cx) (W : WX) : Expr → Itm → Prop
  | v {e : Expr} {d : DE} (h : SE X W e d) : SItm X W e (.v d)
  | o {e : Expr} {d : DA} (h : SN X W e d) : SItm X W e (.o d)
inductive SItms (X : Cx) (W : WX) : List Expr → List Itm → Prop
  | nil : SItms X W [] []
  | cons {e : Expr} {es : List Expr} {t : Itm} {l : List Itm} (h : SItm X W e t) (r : SItms X W es l) (hs : starEach (e :: es) X.env = (false, eval e X.env) :: starEach es X.env := by rfl) : SItms X W (e :: es) (t :: l)
def tItms (G : Gx) (W : WX) (l : List Itm) : TA := fun s H Q => ∃ M r S, EnvR G M H r s ∧ RelH G M S H ∧ Post G (ItRs G H) W M H s (itemsD l r S) Q
theorem pa_items {X : Cx} {W : WX} {es : List Expr} {l : List Itm} (h : SItms X W es l) : PA X es (tItms (gx X) W l) := by
  induction h with
  | nil =>
    refine pa_nil.dimp ?_
    rintro s H Q ⟨M, r, S, en, rh, p⟩
    exact p M [] H Ext.refl rh rfl
  | @cons e es t l h _ hst ih =>
    cases h with
    | v h =>
      refine (pa_cons h ih hst).dimp ?_
      rintro s H Q ⟨M, r, S, en, rh, p⟩
      unfold itemsD at p
      refine ⟨M, r, S, en, rh, (Post.bind (R := RD (gx X)) p).imp fun v H1 h => ?_⟩
      obtain ⟨M1, x, S1, e1, rh1, rd1, p1⟩ := h
      refine ⟨M1, r, S1, en.mono e1, rh1, (Post.bind (R := ItRs (gx X) H1) p1).imp fun vs H2 h => ?_⟩
      obtain ⟨M2, xs, S2, e2, rh2, rd2, p2⟩ := h
      exact p2 M2 _ H2 Ext.refl rh2 ⟨v, vs, rfl, RelD.mono e2 rd1, rd2.back fun p hp => none_back e1 hp, fun ys p z => by cases z⟩
    | o h =>
      refine (pa_cons h ih hst).dimp ?_
      rintro s H Q ⟨M, r, S, en, rh, p⟩
      unfold itemsD at p
      refine ⟨M, r, S, en, rh, (Post.bind (R := RN (gx X) H) p).imp fun v H1 h => ?_⟩
      obtain ⟨M1, x, S1, e1, rh1, rd1, p1⟩ := h
      refine ⟨M1, r, S1, en.mono e1, rh1, (Post.bind (R := ItRs (gx X) H1) p1).imp fun vs H2 h => ?_⟩
      obtain ⟨M2, xs, S2, e2, rh2, rd2, p2⟩ := h
      refine p2 M2 _ H2 Ext.refl rh2 ⟨v, vs, rfl, RN.fwd e2 rd1, rd2.back fun p hp => none_back e1 hp, fun ys p _ ev j zs q1 q2 => ?_⟩
      have := rd2.fresh j zs p q1 q2
      obtain ⟨a, us, ea, h1, _⟩ := rd1
      rw [ev] at ea
      cases ea
      rw [h1] at this
      cases this
/-- one item stored -/
theorem Wst.setItem {i : Nat} {x : Sl} {v : V} {Hs : Hp} (w : Wst G M0 H0 M r S s H) (h : ItR G Hs M H x v) (hs : ∀ p, Hs p = none → H0 p = none) (ap : ∀ ys p, x = .own ys → v = .ref p → ∀ (j : Nat) (zs : List D), r[j]? = some (.own zs) → s[j]? ≠ some (some (.ref p))) (hi : i < r.length) : Wst G M0 H0 M (r.set i x) S (s.set i (some v)) H := by
  cases x with
  | val d => exact w.upd (Upd.set w.env.len hi h)
  | own xs =>
    obtain ⟨p, vs, rfl, h1, h2, h3, h4, h5⟩ := h
    have hl := w.env.len
    have apart : ∀ (j : Nat) (ys : List D) (a : Addr), r[j]? = some (.own ys) → s[j]? = some (some (.ref a)) → a ≠ p := fun j ys a q1 q2 z => ap xs p rfl rfl j ys q1 (by rw [q2, z])
    refine ⟨⟨by rw [List.length_set, List.length_set]; exact hl, fun j x q => ?_, fun j k xs' ys' a q1 q2 q3 q4 => ?_⟩, w.heap, w.ext, fun j xs' a q1 q2 => ?_⟩
    · by_cases e : j = i
      · subst e
        rw [List.getElem?_set_self hi] at q
        cases q
        exact ⟨_, List.getElem?_set_self (by omega), p, vs, rfl, h1, h2, h3, h4⟩
      · rw [List.getElem?_set_ne (Ne.symm e)] at q ⊢
        exact w.env.sl j x q
    · by_cases e : j = i <;> by_cases e2 : k = i
      · rw [e, e2]
      · subst e
        rw [List.getElem?_set_self (by omega)] at q3
        cases q3
        rw [List.getElem?_set_ne (Ne.symm e2)] at q2 q4
        exact absurd rfl (apart k _ _ q2 q4)
      · subst e2
        rw [List.getElem?_set_self (by omega)] at q4
        cases q4
        rw [List.getElem?_set_ne (Ne.symm e)] at q1 q3
        exact absurd rfl (apart j _ _ q1 q3)
      · rw [List.getElem?_set_ne (Ne.symm e)] at q1 q3
        rw [List.getElem?_set_ne (Ne.symm e2)] at q2 q4
        exact w.env.apt j k _ _ a q1 q2 q3 q4
    · by_cases e : j = i
      · subst e
        rw [List.getElem?_set_self (by omega)] at q2
        cases q2
        exact hs p h5
      · rw [List.getElem?_set_ne (Ne.symm e)] at q1 q2
        exact w.own j _ a q1 q2
  | un => exact h.elim
  | ownd _ _ => exact h.elim
  | exc _ _ => exact h.elim
  | lam => exact h.elim
/-- all of them stored -/
theorem put_all {Hs : Hp} (hs : ∀ p, Hs p = none → H0 p = none) : ∀ (is : List Nat) (xs : List Sl) (vs : List V) (r r' : Rho) (s : L2.St), Wst G M0 H0 M r S s H → ItRs G Hs M H xs vs → (∀ (k : Nat) (ys : List D) (p : Addr), xs[k]? = some (.own ys) → vs[k]? = some (.ref p) → ∀ (j : Nat) (zs : List D), r[j]? = some (.own zs) → s[j]? ≠ some (some (.ref p))) →
    putAll is xs r = some r' → Wst G M0 H0 M r' S ((is.zip vs).foldl (fun s z => s.set z.1 (some z.2)) s) H ∧ vs.length = is.length
  | [], [], vs, r, r', s, w, ir, ap, e => by
    cases (show _ = [] from ir)
    cases e
    exact ⟨w, rfl⟩
  | [], _ :: _, _, _, _, _, _, _, _, e => by cases e
  | _ :: _, [], _, _, _, _, _, _, _, e => by cases e
  | i :: is, x :: xs, _, r, r', s, w, ir, ap, e => by
    obtain ⟨v, vs, rfl, h1, h2, h3⟩ := ir
    unfold putAll at e
    split at e
    · rename_i hi
      have w1 := w.setItem h1 hs (fun ys p e1 e2 j zs q => ap 0 ys p (by rw [e1]; rfl) (by rw [e2]; rfl) j zs q) hi
      have hl := w.env.len
      have := put_all hs is xs vs (r.set i x) r' (s.set i (some v)) w1 h2 (fun k ys p q1 q2 j zs q3 q4 => by
        by_cases ej : j = i
        · subst ej
          rw [List.getElem?_set_self hi] at q3
          cases q3
          rw [List.getElem?_set_self (by omega)] at q4
          cases q4
          exact h3 zs p rfl rfl k ys q1 q2
        · rw [List.getElem?_set_ne (Ne.symm ej)] at q3 q4
          exact ap (k + 1) ys p (by simpa using q1) (by simpa using q2) j zs q3 q4) e
      exact ⟨by simpa using this.1, by simpa using this.2⟩
    · cases e
theorem own_not {Hs : Hp} {M' : Mp} {S' : Store} {H' : Hp} {xs : List Sl} {vs : List V} (w : Wst G M0 H0 M r S s Hs) (ir : ItRs G Hs M' H' xs vs) (k : Nat) (ys : List D) (p : Addr) (q1 : xs[k]? = some (.own ys)) (q2 : vs[k]? = some (.ref p)) (j : Nat) (zs : List D) (q3 : r[j]? = some (.own zs)) : s[j]? ≠ some (some (.ref p)) := fun q4 => by
  have := ir.fresh k ys p q1 q2
  obtain ⟨v, k1, k2⟩ := w.env.sl j _ q3
  rw [q4] at k1; cases k1
  obtain ⟨b, us, k3, k4, _⟩ := k2
  cases k3
  rw [this] at k4; cases k4
end
section
variable {X : Cx} {M0 : Mp} {H0 : Hp} {W : WX} {st : Stmt} {i j k : Nat} {l : List Itm}
theorem par_go {D : Ends} {s : L2.St} {H : Hp} {is : List Nat} (h : tS (gx X) M0 H0 W (sParG is l) D s H) : tItms (gx X) W l s H fun vs H1 => vs.length = is.length ∧ D.nx ((is.zip vs).foldl (fun s z => s.set z.1 (some z.2)) s) H1 := by
  obtain ⟨M, r, S, w, p⟩ := h
  refine ⟨M, r, S, w.env, w.heap, (PostS.toS (R := ItRs (gx X) H) w p).imp fun vs H1 h => ?_⟩
  obtain ⟨M1, xs, S1, w1, e1, rv, p1⟩ := h
  cases q : putAll is xs r with
  | none => rw [q] at p1; exact p1.elim
  | some r' =>
    rw [q] at p1
    obtain ⟨w2, hl⟩ := put_all (Hs := H) (fun p hp => none_back w.ext hp) is xs vs r r' s w1 rv (own_not (S' := S1) w rv) q
    exact ⟨hl, p1 M1 _ H1 w2 Le.refl⟩
theorem ss_par2 (h : PS X st (tPar i j (tItms (gx X) W l))) : SS X M0 H0 W st (sParG [i, j] l) := by
  refine h.dimp ?_
  intro D s H q
  obtain ⟨M, r, S, en, rh, p⟩ := par_go q
  refine ⟨M, r, S, en, rh, p.imp fun vs H1 h => ?_⟩
  obtain ⟨hl, q⟩ := h
  match vs, hl, q with
  | [v, w], _, q => exact ⟨v, w, rfl, q⟩
theorem ss_par3 (h : PS X st (tPar3 i j k (tItms (gx X) W l))) : SS X M0 H0 W st (sParG [i, j, k] l) := by
  refine h.dimp ?_
  intro D s H q
  obtain ⟨M, r, S, en, rh, p⟩ := par_go q
  refine ⟨M, r, S, en, rh, p.imp fun vs H1 h => ?_⟩
  obtain ⟨hl, q⟩ := h
  match vs, hl, q with
  | [u, v, w], _, q => exact ⟨u, v, w, rfl, q⟩
end
end Dn

end
section
set_option Elab.async false
set_option linter.all false
set_option maxRecDepth 100000
set_option maxHeartbeats 4000000
/-! Dicts: new ones, displays, look-ups, stores. -/
namespace Dn
open PySem PySem.Spec PyProof.Rows L2
/-! ### what they are worth -/
section
variable {κ : Type} [DecidableEq κ]
def getKV (f : D → Option κ) (kvs : List (D × D)) (c : κ) : Option D := (kvs.find? fun p => decide (f p.1 = some c)).map (·.2)
def putKV (f : D → Option κ) (kvs : List (D × D)) (k : D) (c : κ) (v : D) : List (D × D) :=
  if (kvs.any fun p => decide (f p.1 = some c)) then kvs.map fun p => if f p.1 = some c then (p.1, v) else p else kvs ++ [(k, v)]
def dropKV (f : D → Option κ) (kvs : List (D × D)) (c : κ) : List (D × D) := kvs.filter fun p => decide (f p.1 ≠ some c)
end
/-- what stands at a key; none: no key of this sort of dict -/
def dGet (t : Bool) (kvs : List (D × D)) (k : D) : Option (Option D) := if t then none else (keyOf k).map (getKV keyOf kvs)
def dPut (t : Bool) (kvs : List (D × D)) (k v : D) : Option (List (D × D)) := if t then none else (keyOf k).map fun c => putKV keyOf kvs k c v
/-- the dict of a number -/
def dctOf (S : Store) : D → Option (Nat × Bool × List (D × D))
  | .ref l => (match S[l]? with
    | some (.dct t kvs) => some (l, t, kvs)
    | _ => none)
  | _ => none
/-- {} -/
def eDct (t : Bool) : DE := fun _ S => .ok (.ref S.length) (S ++ [.dct t []])
/-- pairs of a display -/
abbrev DPs := Rho → Store → Rs (List (D × D))
def kvNil : DPs := fun _ S => .ok [] S
def kvCons (k v : DE) (l : DPs) : DPs := fun r S => (k r S).bind fun x S => (v r S).bind fun y S => (l r S).bind fun ps S => .ok ((x, y) :: ps) S
def mergeKV : List (D × D) → List (D × D) → Option (List (D × D))
  | acc, [] => some acc
  | acc, (k, v) :: l => match keyOf k with
    | some c => mergeKV (putKV keyOf acc k c v) l
    | none => none
/-- {k: v, ..} -/
def eDisp (ps : DPs) : DE := fun r S => (ps r (S ++ [.dct false []])).bind fun l S' => match S'[S.length]? with
  | some (.dct false []) => if l.length ≤ 15 then (match mergeKV [] l with
    | some kvs => .ok (.ref S.length) (S'.set S.length (.dct false kvs))
    | none => .bad) else .bad
  | _ => .bad
/-- d[k] -/
def eDGet (d k : DE) : DE := fun r S => (d r S).bind fun x S => (k r S).bind fun y S => match dctOf S x with
  | some (_, t, kvs) => Rs.ofO ((dGet t kvs y).bind id) S
  | none => .bad
/-- k in d (n: not in) -/
def eDIn (n : Bool) (k d : DE) : DE := fun r S => (k r S).bind fun y S => (d r S).bind fun x S => match dctOf S x with
  | some (_, t, kvs) => Rs.ofO ((dGet t kvs y).map fun o => .bl (o.isSome != n)) S
  | none => .bad
/-- d.get(k, z) -/
def eDGet2 (d k z : DE) : DE := fun r S => (d r S).bind fun x S => if (dctOf S x).isSome then (k r S).bind fun y S => (z r S).bind fun w S => match dctOf S x with
  | some (_, t, kvs) => Rs.ofO ((dGet t kvs y).map fun o => o.getD w) S
  | none => .bad else .bad
/-- d[k] = v -/
def sDPutR (d k v : DE) : DS := fun r S => (v r S).toS r fun w S => (d r S).toS r fun x S => (k r S).toS r fun y S => match dctOf S x with
  | some (l, t, kvs) => if kvs.length < sizeLine then (match dPut t kvs y w with
    | some kvs' => .next r (S.set l (.dct t kvs'))
    | none => .bad) else .bad
  | none => .bad
/-! ### soundness -/
section
variable {G : Gx} {M : Mp}
variable {κ : Type} [DecidableEq κ] {f : D → Option κ}
theorem RelKV.len : ∀ {kvs : List (D × D)} {vs : List (κ × V)}, RelKV G M f kvs vs → kvs.length = vs.length
  | [], _, h => by cases (show _ = [] from h); rfl
  | (k, d) :: r, _, h => by
    obtain ⟨c, v, s, rfl, _, _, h3⟩ := h
    simp [RelKV.len h3]
theorem RelKV.get (c : κ) : ∀ {kvs : List (D × D)} {vs : List (κ × V)}, RelKV G M f kvs vs → (match getKV f kvs c with
    | some d => ∃ v, valV vs c = some v ∧ RelD G M d v
    | none => valV vs c = none)
  | [], _, h => by cases (show _ = [] from h); rfl
  | (k, d) :: r, _, h => by
    obtain ⟨c', v, s, rfl, h1, h2, h3⟩ := h
    by_cases e : c' = c
    · have e1 : getKV f ((k, d) :: r) c = some d := by simp [getKV, List.find?_cons, h1, e]
      rw [e1]
      exact ⟨v, valV_pos e, h2⟩
    · have e1 : getKV f ((k, d) :: r) c = getKV f r c := by simp [getKV, List.find?_cons, h1, e]
      rw [e1, valV_neg (p := (c', v)) (r := s) e]
      exact RelKV.get c h3
theorem RelKV.any (c : κ) : ∀ {kvs : List (D × D)} {vs : List (κ × V)}, RelKV G M f kvs vs → (kvs.any fun p => decide (f p.1 = some c)) = vs.any fun kv => decide (kv.1 = c)
  | [], _, h => by cases (show _ = [] from h); rfl
  | (k, d) :: r, _, h => by
    obtain ⟨c', v, s, rfl, h1, h2, h3⟩ := h
    simp only [List.any_cons, RelKV.any c h3, h1, Option.some.injEq]
theorem RelKV.append : ∀ {a b : List (D × D)} {vs ws : List (κ × V)}, RelKV G M f a vs → RelKV G M f b ws → RelKV G M f (a ++ b) (vs ++ ws)
  | [], _, _, _, h, k => by cases (show _ = [] from h); exact k
  | (x, d) :: r, _, _, _, h, k => by
    obtain ⟨c', v, s, rfl, h1, h2, h3⟩ := h
    exact ⟨c', v, s ++ _, rfl, h1, h2, RelKV.append h3 k⟩
theorem RelKV.repl (c : κ) {d : D} {v : V} (hv : RelD G M d v) : ∀ {kvs : List (D × D)} {vs : List (κ × V)}, RelKV G M f kvs vs → RelKV G M f (kvs.map fun p => if f p.1 = some c then (p.1, d) else p) (vs.map fun kv => if kv.1 = c then (kv.1, v) else kv)
  | [], _, h => by cases (show _ = [] from h); rfl
  | (k, x) :: r, _, h => by
    obtain ⟨c', y, s, rfl, h1, h2, h3⟩ := h
    have ih := RelKV.repl c hv h3
    by_cases e : c' = c
    · subst e
      have e0 : ((c', y) :: s).map (fun kv => if kv.1 = c' then (kv.1, v) else kv) = (c', v) :: s.map fun kv => if kv.1 = c' then (kv.1, v) else kv := by simp
      rw [e0, List.map_cons]
      dsimp only
      rw [if_pos h1]
      exact ⟨c', v, _, rfl, h1, hv, ih⟩
    · have e0 : ((c', y) :: s).map (fun kv => if kv.1 = c then (kv.1, v) else kv) = (c', y) :: s.map fun kv => if kv.1 = c then (kv.1, v) else kv := by simp [e]
      have : ¬ f k = some c := by rw [h1]; exact fun z => e (Option.some.inj z)
      rw [e0, List.map_cons]
      dsimp only
      rw [if_neg this]
      exact ⟨c', y, _, rfl, h1, h2, ih⟩
theorem RelKV.put {k : D} {c : κ} {d : D} {v : V} (hk : f k = some c) (hv : RelD G M d v) {kvs : List (D × D)} {vs : List (κ × V)} (h : RelKV G M f kvs vs) : RelKV G M f (putKV f kvs k c d) (putK vs c v) := by
  unfold putKV putK
  rw [h.any c]
  split
  · exact h.repl c hv
  · exact h.append ⟨c, v, [], rfl, hk, hv, rfl⟩
end
theorem key_v {G : Gx} {M : Mp} {k : D} {c : Key} {v : V} (h : keyOf k = some c) (r : RelD G M k v) : v = kV c := by
  cases k <;> simp only [keyOf] at h <;> cases h <;> exact r
variable [Tb]
/-- a new object is laid and numbered -/
theorem Ext.objNew {G : Gx} {M : Mp} {S : Store} {H : Hp} {p : Addr} {so : SO} {ho : HO} (rh : RelH G M S H) (hp : H p = none) (h : ∀ M', Ext M H M' (upd H p ho) → ObjR G M' so (some ho)) :
    ∃ M', Ext M H M' (upd H p ho) ∧ RelH G M' (S ++ [so]) (upd H p ho) ∧ M'.loc S.length = some p := by
  have nl := rh.nolst hp
  have no := rh.noloc hp
  have ne : ∀ b o, H b = some o → b ≠ p := fun b o h q => by rw [q, hp] at h; cases h
  have nS : ∀ l x, M.loc l = some x → l ≠ S.length := fun l x h q => by have := rh.dom l x h; omega
  have ex : Ext M H ⟨fun l => if l = S.length then some p else M.loc l, M.tup, M.lst⟩ (upd H p ho) := by
    refine ⟨fun l x h => ?_, fun _ _ h => h, fun _ _ h => h, fun l x h => ?_, fun _ _ h => .inl h, fun a o h _ _ => ?_, fun a o h => ⟨o, ?_⟩⟩
    · show (if l = S.length then some p else M.loc l) = some x
      rw [if_neg (nS l x h)]; exact h
    · have h' : (if l = S.length then some p else M.loc l) = some x := h
      by_cases q : l = S.length
      · rw [if_pos q] at h'; cases h'
        exact .inr hp
      · rw [if_neg q] at h'; exact .inl h'
    · rw [upd_ne (ne a o h)]; exact h
    · rw [upd_ne (ne a o h)]; exact h
  refine ⟨_, ex, ?_, by show (if S.length = S.length then some p else M.loc S.length) = some p; rw [if_pos rfl]⟩
  refine ⟨fun l o q => ?_, fun l x h => ?_, fun l k x h1 h2 => ?_, fun a x h => ?_, fun a x h => ?_, fun a x l h q => ?_, tabs_fresh rh.tabs hp⟩
  · by_cases hl : l = S.length
    · subst hl
      rw [List.getElem?_append_right (Nat.le_refl _)] at q
      simp at q
      subst q
      refine ⟨p, by show (if S.length = S.length then some p else M.loc S.length) = some p; rw [if_pos rfl], ?_⟩
      rw [upd_same]
      exact h _ ex
    · have hlt : l < S.length := by
        have := (List.getElem?_eq_some_iff.mp q).1
        simp at this; omega
      rw [List.getElem?_append_left hlt] at q
      obtain ⟨a, e1, e2⟩ := rh.obj l o q
      have hne : a ≠ p := fun z => no l (by rw [← z]; exact e1)
      refine ⟨a, by show (if l = S.length then some p else M.loc l) = some a; rw [if_neg hl]; exact e1, ?_⟩
      rw [upd_ne hne]
      exact e2.mono ex
  · have h' : (if l = S.length then some p else M.loc l) = some x := h
    by_cases q : l = S.length
    · rw [q]; simp
    · rw [if_neg q] at h'
      have := rh.dom l x h'
      simp; omega
  · have h1' : (if l = S.length then some p else M.loc l) = some x := h1
    have h2' : (if k = S.length then some p else M.loc k) = some x := h2
    by_cases q1 : l = S.length <;> by_cases q2 : k = S.length
    · rw [q1, q2]
    · rw [if_pos q1] at h1'; rw [if_neg q2] at h2'; cases h1'; exact absurd h2' (no k)
    · rw [if_neg q1] at h1'; rw [if_pos q2] at h2'; cases h2'; exact absurd h1' (no l)
    · rw [if_neg q1] at h1'; rw [if_neg q2] at h2'; exact rh.inj l k x h1' h2'
  · have := rh.tup a x h
    rw [upd_ne (ne a _ this)]; exact this
  · have q : a ≠ p := fun q => by rw [q, nl] at h; cases h
    rcases rh.lst a x h with z | ⟨o, z⟩
    · exact .inl (by rw [upd_ne q]; exact z)
    · exact .inr ⟨o, by rw [upd_ne q]; exact z⟩
  · have h' : (if l = S.length then some p else M.loc l) = some a := q
    by_cases z : l = S.length
    · rw [if_pos z] at h'; cases h'
      rw [nl] at h; cases h
    · rw [if_neg z] at h'
      exact rh.apt a x l h h'
section
variable {X : Cx} {W : WX} {pos : Pos}
theorem se_dctK : SE X W (.Dict [] [] pos) (eDct false) := by
  refine pe_dnewK.dimp ?_
  rintro s H Q ⟨M, r, S, en, rh, p⟩ q hq
  obtain ⟨M', e, rh', hl⟩ := Ext.objNew (so := .dct false []) (ho := .dK []) rh hq fun M' e => .inl ⟨rfl, [], rfl, rfl⟩
  exact p M' _ _ e rh' ⟨q, rfl, hl⟩
theorem se_dctT : SE X W (.Dict [] [] pos) (eDct true) := by
  refine pe_dnewT.dimp ?_
  rintro s H Q ⟨M, r, S, en, rh, p⟩ q hq
  obtain ⟨M', e, rh', hl⟩ := Ext.objNew (so := .dct true []) (ho := .dT []) rh hq fun M' e => .inr ⟨rfl, [], rfl, rfl⟩
  exact p M' _ _ e rh' ⟨q, rfl, hl⟩
/-- pairs lie as they are told -/
def RelPs (G : Gx) (M : Mp) : List (D × D) → List (V × V) → Prop
  | [], vs => vs = []
  | (k, d) :: r, vs => ∃ y v s, vs = (y, v) :: s ∧ RelD G M k y ∧ RelD G M d v ∧ RelPs G M r s
def tKv (G : Gx) (W : WX) (d : DPs) (s : L2.St) (H : Hp) (Q : List (V × V) → Hp → Prop) : Prop := ∃ M r S, EnvR G M H r s ∧ RelH G M S H ∧ Post G (fun M _ l ps => RelPs G M l ps) W M H s (d r S) Q
structure SKv (X : Cx) (W : WX) (pos : Pos) (ks : List (Option Expr)) (vs : List Expr) (d : DPs) : Prop where
  ok : ∃ trs, PPs X pos ks vs trs ∧ ∀ s H Q, tKv (gx X) W d s H Q → tPairs trs s H Q
theorem kv_nil : SKv X W pos [] [] kvNil := ⟨[], pps_nil, by
  rintro s H Q ⟨M, r, S, en, rh, p⟩
  exact p M [] H Ext.refl rh rfl⟩
theorem kv_cons {k v : Expr} {ks : List (Option Expr)} {vs : List Expr} {dk dv : DE} {l : DPs} (hk : SE X W k dk) (hv : SE X W v dv) (hr : SKv X W pos ks vs l) : SKv X W pos (some k :: ks) (v :: vs) (kvCons dk dv l) := by
  obtain ⟨trs, h1, h2⟩ := hr.ok
  refine ⟨_, pps_cons hk hv h1, ?_⟩
  rintro s H Q ⟨M, r, S, en, rh, p⟩
  refine ⟨M, r, S, en, rh, (Post.bind (R := RD (gx X)) p).imp fun y H1 h => ?_⟩
  obtain ⟨M1, x, S1, e1, rh1, rd1, p1⟩ := h
  refine ⟨M1, r, S1, en.mono e1, rh1, (Post.bind (R := RD (gx X)) p1).imp fun w H2 h => ?_⟩
  obtain ⟨M2, z, S2, e2, rh2, rd2, p2⟩ := h
  refine h2 s H2 _ ⟨M2, r, S2, (en.mono e1).mono e2, rh2, (Post.bind (R := fun M _ l ps => RelPs (gx X) M l ps) p2).imp fun ps H3 h => ?_⟩
  obtain ⟨M3, l3, S3, e3, rh3, rd3, p3⟩ := h
  exact p3 M3 _ H3 Ext.refl rh3 ⟨y, w, ps, rfl, (rd1.mono e2).mono e3, rd2.mono e3, rd3⟩
theorem merge_rel {G : Gx} {M : Mp} : ∀ {l : List (D × D)} {ps : List (V × V)} {acc kvs : List (D × D)} {vs : List (Key × V)}, RelPs G M l ps → RelKV G M keyOf acc vs → mergeKV acc l = some kvs → ∃ ws : List (Key × V), ps = ws.map (fun kv => (kV kv.1, kv.2)) ∧ ws.length = l.length ∧ RelKV G M keyOf kvs (mergeK vs ws)
  | [], _, acc, kvs, vs, h, k, e => by
    cases (show _ = [] from h)
    cases e
    exact ⟨[], rfl, rfl, k⟩
  | (x, d) :: l, _, acc, kvs, vs, h, k, e => by
    obtain ⟨y, v, s, rfl, h1, h2, h3⟩ := h
    unfold mergeKV at e
    cases q : keyOf x with
    | none => rw [q] at e; cases e
    | some c =>
      rw [q] at e
      obtain ⟨ws, w1, w2, w3⟩ := merge_rel h3 (k.put q h2) e
      refine ⟨(c, v) :: ws, ?_, by simp [w2], w3⟩
      rw [key_v q h1, w1]
      rfl
theorem se_disp {ks : List (Option Expr)} {vs : List Expr} {d : DPs} (h : SKv X W pos ks vs d) (hall : ks.all (·.isSome) = true) (hl : ks.length = vs.length) (h0 : ks ≠ []) (h15 : ks.length ≤ 15) : SE X W (.Dict ks vs pos) (eDisp d) := by
  obtain ⟨trs, h1, h2⟩ := h.ok
  refine (pe_disp h1 hall hl h0 h15).dimp ?_
  rintro s H Q ⟨M, r, S, en, rh, p⟩ q hq
  obtain ⟨M', e, rh', hloc⟩ := Ext.objNew (so := .dct false []) (ho := .dK []) rh hq fun M' e => .inl ⟨rfl, [], rfl, rfl⟩
  refine h2 s _ _ ⟨M', r, _, en.mono e, rh', ((Post.bind (R := fun M _ l ps => RelPs (gx X) M l ps) (Post.mono e p))).imp fun ps H2 h => ?_⟩
  obtain ⟨M2, l, S2, e2, rh2, rd2, p2⟩ := h
  cases q2 : S2[S.length]? with
  | none => rw [q2] at p2; exact p2.elim
  | some o =>
    rw [q2] at p2
    cases o with
    | lst _ => exact p2.elim
    | ins _ _ => exact p2.elim
    | dct t kvs =>
      cases t with
      | true => exact p2.elim
      | false =>
        cases kvs with
        | cons _ _ => exact p2.elim
        | nil =>
          dsimp only at p2
          split at p2
          · rename_i h15
            cases q3 : mergeKV [] l with
            | none => rw [q3] at p2; exact p2.elim
            | some kvs =>
              rw [q3] at p2
              have hloc2 := e2.loc _ _ hloc
              obtain ⟨a, x1, x2⟩ := rh2.obj _ _ q2
              rw [hloc2] at x1; cases x1
              obtain ⟨ws, w1, w2, w3⟩ := merge_rel rd2 (acc := []) (vs := []) rfl q3
              have hH : H2 q = some (.dK []) := by
                rcases x2 with ⟨_, vs, y1, y2⟩ | ⟨z, _⟩
                · cases (show vs = [] from y2); exact y1
                · cases z
              refine ⟨hH, ws, w1, by omega, ?_⟩
              obtain ⟨r1, r2⟩ := rh2.put (o' := .dct false kvs) (ho := .dK (mergeK [] ws)) hloc2 q2 (.inl ⟨rfl, _, rfl, w3⟩)
              exact p2 M2 _ _ r2 r1 ⟨q, rfl, hloc2⟩
          · exact p2.elim
/-- isinstance(x, a built-in class), x maybe an instance of one of cs -/
def eIsTyI (cs : List Str) (n : String) (a : DE) : DE := fun r S => (a r S).bind fun x S => match tyName S x with
  | some t => .ok (.bl (isTy t n)) S
  | none => match x with
    | .ref l => (match S[l]? with
      | some (.ins c _) => if c ∈ cs then .ok (.bl false) S else .bad
      | _ => .bad)
    | _ => .bad
theorem se_isTyI {n : String} {cs : List Str} {e : Expr} {da : DE} (hn : kitOk n = true) (hi : ∀ c ∈ cs, ∀ C, X.mg c = some (.ref C) → Cls X.K C ∧ InsK X.K C ∧ PySem.W.kitOne X.K (.ref C) (.type n) = some false)
    (hc : PE X e (tCB (rIsi X.K) (tCons (tE (gx X) W da) (tCons (tC (.ty n)) tNil)))) : SE X W e (eIsTyI cs n da) := by
  refine hc.dimp ?_
  rintro s H Q ⟨M, r, S, en, rh, p⟩
  refine ⟨M, r, S, en, rh, (Post.bind (R := RD (gx X)) p).imp fun v H1 h => ?_⟩
  obtain ⟨M1, x, S1, e1, rh1, rd1, p1⟩ := h
  cases q : tyName S1 x with
  | none =>
    rw [q] at p1
    cases x with
    | ref l =>
      dsimp only at p1
      cases q2 : S1[l]? with
      | none => rw [q2] at p1; exact p1.elim
      | some o =>
        rw [q2] at p1
        cases o with
        | lst _ => exact p1.elim
        | dct _ _ => exact p1.elim
        | ins c fs =>
          dsimp only at p1
          split at p1
          · rename_i hm
            obtain ⟨a, rfl, h1⟩ := rd1
            obtain ⟨a', e2, C, dx, vfs, x2, x3, x4⟩ := rh1.obj l _ q2
            rw [h1] at e2; cases e2
            obtain ⟨k1, k2, k3⟩ := hi c hm C x3
            exact ⟨.ref a, .ty n, .ref C, .type n, false, rfl, .ty n, .base (.ins x2 k1 k2.ha k2.hn k2.htk k2.hm), k3, p1 M1 _ H1 Ext.refl rh1 rfl⟩
          · exact p1.elim
    | _ => exact p1.elim
  | some t =>
    rw [q] at p1
    have hk : kitB t n = some (isTy t n) := by
      unfold kitOk at hn
      rw [List.all_eq_true] at hn
      refine of_decide_eq_true (hn t ?_)
      cases x with
      | non => cases q; simp
      | bl _ => cases q; simp
      | int _ => cases q; simp
      | str _ => cases q; simp
      | tup _ => cases q; simp
      | lst _ => cases q; simp
      | ref l =>
        dsimp only [tyName] at q
        split at q
        · cases q; simp
        · cases q; simp
        · cases q
      | cls _ => cases q
      | fn _ => cases q
    exact ⟨v, .ty n, .type t, .type n, isTy t n, rfl, .ty n, ty_ok rh1 rd1 q, kit_ty hk, p1 M1 _ H1 Ext.refl rh1 rfl⟩
/-- from the head's facts -/
theorem insc_nil {G : Gx} {n : String} : ∀ c ∈ ([] : List Str), ∀ C, G.mg c = some (.ref C) → Cls G.K C ∧ InsK G.K C ∧ PySem.W.kitOne G.K (.ref C) (.type n) = some false := fun _ h => by cases h
theorem insc_cons {mg : Str → Option Value} {K : PySem.W.Frag} {n : String} {c : Str} {cs : List Str} (hg : mg c = some (.ref (He.ga K c))) (h1 : Cls K (He.ga K c)) (h2 : InsK K (He.ga K c)) (h3 : PySem.W.kitOne K (.ref (He.ga K c)) (.type n) = some false)
    (h : ∀ c ∈ cs, ∀ C, mg c = some (.ref C) → Cls K C ∧ InsK K C ∧ PySem.W.kitOne K (.ref C) (.type n) = some false) : ∀ d ∈ c :: cs, ∀ C, mg d = some (.ref C) → Cls K C ∧ InsK K C ∧ PySem.W.kitOne K (.ref C) (.type n) = some false := fun d hd C q => by
  rcases List.mem_cons.mp hd with rfl | hd
  · rw [hg] at q
    cases q
    exact ⟨h1, h2, h3⟩
  · exact h d hd C q
end
end Dn

end
section
set_option Elab.async false
set_option linter.all false
set_option maxRecDepth 100000
set_option maxHeartbeats 4000000
open PySem Dn
namespace Pg
/-- is_integer (0 thing) -/
noncomputable def b_is_integer : DS := sRet (eAnd (eIsTyI ["Ideal"] "int" (eVar 0)) (eNot (eIsTyI ["Ideal"] "bool" (eVar 0))))
noncomputable def m_is_integer : Fn := fnD 1 1 b_is_integer
end Pg
open Pg
namespace Pg
/-- is_within (0 thing, 1 least, 2 most) -/
noncomputable def b_is_within : DS := sRet (eAnd (eCall m_is_integer (aCons (eVar 0) (aNil))) (eChain (fun _ => cmpI iLe) (fun _ => cmpI iLe) (eVar 1) (eVar 0) (eVar 2)))
noncomputable def m_is_within : Fn := fnD 3 3 b_is_within
end Pg
open Pg
namespace Pg
/-- check_lines (0 thing) -/
noncomputable def b_check_lines : DS := sIf (tNotD (tOfB (eCall m_is_within (aCons (eVar 0) (aCons (eC (.int 1)) (aCons (eC (.int 12)) (aNil))))))) (sRaise "NoLines") (sNext)
noncomputable def m_check_lines : Fn := fnD 1 1 b_check_lines
end Pg
open Pg
namespace Pg
/-- Ideal.__init__ (0 self, 1 outputs, 2 output) -/
noncomputable def b_Ideal_init : DS := sSeq (sDrop (eCall m_check_lines (aCons (eVar 1) (aNil)))) (sFldD ["Ideal"] "kept_keys" (eVar 0) (eNew (nLc (iRange1 (eVar 1)) (gNameD 2) (tYesD) (eNew (nLst (aNil))) [2])))
noncomputable def m_Ideal_init : Fn := fnD 2 3 b_Ideal_init
end Pg
open Pg
namespace Pg
/-- Ideal.check_output (0 self, 1 thing) -/
noncomputable def b_Ideal_check_output : DS := sIf (tNotD (tOfB (eCall m_is_within (aCons (eVar 1) (aCons (eC (.int 0)) (aCons (eOp (fun _ => opSub) (eLen (lE (eFld ["Ideal"] "kept_keys" (eVar 0)))) (eC (.int 1))) (aNil))))))) (sRaise "NoOutput") (sNext)
noncomputable def m_Ideal_check_output : Fn := fnD 2 2 b_Ideal_check_output
end Pg
open Pg
namespace Pg
/-- is_pair (0 thing) -/
noncomputable def b_is_pair : DS := sRet (eAnd (eIsTyI ["Ideal"] "tuple" (eVar 0)) (eCmp cmpEq (eLen (lE (eVar 0))) (eC (.int 2))))
noncomputable def m_is_pair : Fn := fnD 1 1 b_is_pair
end Pg
open Pg
namespace Pg
/-- is_key (0 thing) -/
noncomputable def b_is_key : DS := sRet (eAnd (eCall m_is_pair (aCons (eVar 0) (aNil))) (eAnd (eCall m_is_within (aCons (eIx (lE (eVar 0)) (eC (.int 0))) (aCons (eUn opNeg (eC (.int 1000000000000000000))) (aCons (eC (.int 1000000000000000000)) (aNil))))) (eAnd (eCall m_is_integer (aCons (eIx (lE (eVar 0)) (eC (.int 1))) (aNil))) (eCmp (fun _ => cmpI iGe) (eIx (lE (eVar 0)) (eC (.int 1))) (eC (.int 0))))))
noncomputable def m_is_key : Fn := fnD 1 1 b_is_key
end Pg
open Pg
namespace Pg
/-- check_key (0 thing) -/
noncomputable def b_check_key : DS := sIf (tNotD (tOfB (eCall m_is_key (aCons (eVar 0) (aNil))))) (sRaise "NoKey") (sNext)
noncomputable def m_check_key : Fn := fnD 1 1 b_check_key
end Pg
open Pg
namespace Pg
/-- Ideal.ahead (0 self, 1 output, 2 key, 3 one) -/
noncomputable def b_Ideal_ahead : DS := sSeq (sDrop (eMeth "Ideal" "check_output" m_Ideal_check_output (eVar 0) (aCons (eVar 1) (aNil)))) (sSeq (sDrop (eCall m_check_key (aCons (eVar 2) (aNil)))) (sRet (eLen (lE (eFrz (nLc (iSeqD (eIx (lE (eFld ["Ideal"] "kept_keys" (eVar 0))) (eVar 1))) (gNameD 3) (tOfB (eCmp (fun _ => cmpLt) (eVar 3) (eVar 2))) (eVar 3) [3]))))))
noncomputable def m_Ideal_ahead : Fn := fnD 3 4 b_Ideal_ahead
end Pg
open Pg
namespace Pg
/-- Ideal.due (0 self, 1 output) -/
noncomputable def b_Ideal_due : DS := sSeq (sDrop (eMeth "Ideal" "check_output" m_Ideal_check_output (eVar 0) (aCons (eVar 1) (aNil)))) (sRet (eIf (tOfB (eCmp (fun _ => cmpI iGt) (eLen (lE (eIx (lE (eFld ["Ideal"] "kept_keys" (eVar 0))) (eVar 1)))) (eC (.int 0)))) (eIx (lE (eIx (lE (eFld ["Ideal"] "kept_keys" (eVar 0))) (eVar 1))) (eC (.int 0))) (eC .non)))
noncomputable def m_Ideal_due : Fn := fnD 2 2 b_Ideal_due
end Pg
open Pg
namespace Pg
/-- Ideal.held (0 self, 1 output) -/
noncomputable def b_Ideal_held : DS := sSeq (sDrop (eMeth "Ideal" "check_output" m_Ideal_check_output (eVar 0) (aCons (eVar 1) (aNil)))) (sRet (eTupOf (lE (eIx (lE (eFld ["Ideal"] "kept_keys" (eVar 0))) (eVar 1)))))
noncomputable def m_Ideal_held : Fn := fnD 2 2 b_Ideal_held
end Pg
open Pg
namespace Pg
/-- Ideal.let_go (0 self, 1 output) -/
noncomputable def b_Ideal_let_go : DS := sSeq (sDrop (eMeth "Ideal" "check_output" m_Ideal_check_output (eVar 0) (aCons (eVar 1) (aNil)))) (sSeq (sIf (tOfB (eCmp cmpEq (eLen (lE (eIx (lE (eFld ["Ideal"] "kept_keys" (eVar 0))) (eVar 1)))) (eC (.int 0)))) (sRaise "NothingThere") (sNext)) (sRet (ePopR (eIx (lE (eFld ["Ideal"] "kept_keys" (eVar 0))) (eVar 1)) (eC (.int 0)))))
noncomputable def m_Ideal_let_go : Fn := fnD 2 2 b_Ideal_let_go
end Pg
open Pg
namespace Pg
/-- Ideal.push (0 self, 1 output, 2 key, 3 rank, 4 cell) -/
noncomputable def b_Ideal_push : DS := sSeq (sDrop (eMeth "Ideal" "check_output" m_Ideal_check_output (eVar 0) (aCons (eVar 1) (aNil)))) (sSeq (sDrop (eCall m_check_key (aCons (eVar 2) (aNil)))) (sSeq (sIf (tOfB (eIn false (eIx (lE (eVar 2)) (eC (.int 1))) (lE (eFrz (nLc (iSeqD (eIx (lE (eFld ["Ideal"] "kept_keys" (eVar 0))) (eVar 1))) (gTupD 2 (gsCons (gNameD 3) (gsCons (gNameD 4) (gsNil)))) (tYesD) (eVar 4) [3, 4]))))) (sRaise "KeyThere") (sNext)) (sPutR (eFld ["Ideal"] "kept_keys" (eVar 0)) (eVar 1) (eNew (nSorted (lE (eOp opAdd (eIx (lE (eFld ["Ideal"] "kept_keys" (eVar 0))) (eVar 1)) (eFrz (nLst (aCons (eVar 2) (aNil)))))))))))
noncomputable def m_Ideal_push : Fn := fnD 3 5 b_Ideal_push
end Pg
open Pg
namespace L06
/-- _law_draw (0 _law_hand_here, 1 _law_many, 2 _law_cell, 3 _law_digit, 4 _law_number) -/
noncomputable def b__law_draw : DS := sSeq (sIf (tAndD (tOfB (eCmp cmpEq (eIx (lE (eVar 0)) (eC (.int 2))) (eC (.int 0)))) (tOfB (eCmp (fun _ => cmpI iLt) (eIx (lE (eVar 0)) (eC (.int 1))) (eLen (lE (eIx (lE (eVar 0)) (eC (.int 0)))))))) (sSeq (sSet 2 (eIx (lE (eIx (lE (eVar 0)) (eC (.int 0)))) (eIx (lE (eVar 0)) (eC (.int 1))))) (sSeq (sPutR (eVar 0) (eC (.int 1)) (eOp opAdd (eIx (lE (eVar 0)) (eC (.int 1))) (eC (.int 1)))) (sSeq (sPutR (eVar 0) (eC (.int 3)) (eOp (fun _ => opMod) (eInt (eOp opAdd (eOp opAdd (eOp opMul (eIx (lE (eVar 0)) (eC (.int 3))) (eC (.int 69621))) (eVar 2)) (eC (.int 11)))) (eC (.int 2147483629)))) (sIf (tOfB (eCmp (fun _ => cmpI iGe) (eVar 2) (eOp (fun _ => opPow) (eC (.int 10)) (eC (.int 18))))) (sPutR (eVar 0) (eC (.int 2)) (eVar 2)) (sNext))))) (sNext)) (sSeq (sIf (tOfB (eCmp (fun _ => cmpI iGt) (eIx (lE (eVar 0)) (eC (.int 2))) (eC (.int 0)))) (sSeq (sSet 3 (eOp (fun _ => opMod) (eInt (eIx (lE (eVar 0)) (eC (.int 2)))) (eVar 1))) (sSeq (sPutR (eVar 0) (eC (.int 2)) (eOp (fun _ => opDiv) (eIx (lE (eVar 0)) (eC (.int 2))) (eVar 1))) (sRet (eVar 3)))) (sNext)) (sSeq (sPutR (eVar 0) (eC (.int 4)) (eOp opAdd (eIx (lE (eVar 0)) (eC (.int 4))) (eC (.int 1)))) (sSeq (sSet 4 (eOp (fun _ => opMod) (eInt (eOp opMul (eInt (eOp opAdd (eIx (lE (eVar 0)) (eC (.int 3))) (eOp opMul (eC (.int 7919)) (eIx (lE (eVar 0)) (eC (.int 4)))))) (eC (.int 48271)))) (eC (.int 2147483647)))) (sSeq (sSet 4 (eOp (fun _ => opMod) (eInt (eOp opMul (eVar 4) (eOp opAdd (eOp (fun _ => opDiv) (eVar 4) (eC (.int 1009))) (eC (.int 69621))))) (eC (.int 2147483647)))) (sSeq (sSet 4 (eOp (fun _ => opMod) (eInt (eOp opMul (eVar 4) (eOp opAdd (eOp (fun _ => opDiv) (eVar 4) (eC (.int 2003))) (eC (.int 40692))))) (eC (.int 2147483399)))) (sRet (eOp (fun _ => opMod) (eInt (eOp (fun _ => opDiv) (eVar 4) (eC (.int 16)))) (eVar 1))))))))
noncomputable def m__law_draw : Fn := fnD 2 5 b__law_draw
end L06
namespace L06
/-- _law_any (0 _law_hand_here, 1 _law_some) -/
noncomputable def b__law_any : DS := sRet (eIx (lE (eVar 1)) (eCall m__law_draw (aCons (eVar 0) (aCons (eLen (lE (eVar 1))) (aNil)))))
noncomputable def m__law_any : Fn := fnD 2 2 b__law_any
end L06
namespace L06
/-- _law_first (0 _law_pairs, 1 _law_word_here, 2 _law_is_right) -/
noncomputable def b__law_first : DS := sRet (eIx (lE (eOp opAdd (eFrz (nLc (iSeqD (eVar 0)) (gTupD 2 (gsCons (gNameD 1) (gsCons (gNameD 2) (gsNil)))) (tNotD (tOfB (eVar 2))) (eVar 1) [1, 2])) (eFrz (nLst (aCons (eC (.str "let")) (aNil)))))) (eC (.int 0)))
noncomputable def m__law_first : Fn := fnD 1 3 b__law_first
end L06
namespace L06
/-- _law_hand (0 _law_script, 1 _law_given, 2 _law_cell) -/
noncomputable def b__law_hand : DS := sSeq (sSet 1 (eFrz (nLc (iSeqD (eSlice (lE (eVar 0)) oNone (oSome (eC (.int 63))))) (gNameD 2) (tYesD) (eAbs (eInt (eVar 2))) [2]))) (sRet (eNew (nLst (aCons (eVar 1) (aCons (eC (.int 0)) (aCons (eC (.int 0)) (aCons (eOp opAdd (eC (.int 1)) (eLen (lE (eVar 1)))) (aCons (eC (.int 0)) (aNil)))))))))
noncomputable def m__law_hand : Fn := fnD 1 3 b__law_hand
end L06
namespace L06
/-- _law_inserted (0 _law_row, 1 _law_key_here, 2 _law_at, 3 _law_one) -/
noncomputable def b__law_inserted : DS := sSeq (sSet 2 (eLen (lE (eFrz (nLc (iSeqD (eVar 0)) (gNameD 3) (tOfB (eCmp (fun _ => cmpLt) (eVar 3) (eVar 1))) (eVar 3) [3]))))) (sRet (eOp opAdd (eOp opAdd (eSlice (lE (eVar 0)) oNone (oSome (eVar 2))) (eFrz (nLst (aCons (eVar 1) (aNil))))) (eSlice (lE (eVar 0)) (oSome (eVar 2)) oNone)))
noncomputable def m__law_inserted : Fn := fnD 2 4 b__law_inserted
end L06
namespace L06
/-- _law_is_int (0 _law_thing, 1 _law_least, 2 _law_most) -/
noncomputable def b__law_is_int : DS := sRet (eAnd (eIsTyI ["Ideal"] "int" (eVar 0)) (eAnd (eNot (eIsTyI ["Ideal"] "bool" (eVar 0))) (eChain (fun _ => cmpI iLe) (fun _ => cmpI iLe) (eVar 1) (eVar 0) (eVar 2))))
noncomputable def m__law_is_int : Fn := fnD 3 3 b__law_is_int
end L06
namespace L06
/-- _law_is_key (0 _law_thing) -/
noncomputable def b__law_is_key : DS := sSeq (sIf (tOrD (tNotD (tOfB (eIsTyI ["Ideal"] "tuple" (eVar 0)))) (tOrD (tOfB (eCmp cmpNe (eLen (lE (eVar 0))) (eC (.int 2)))) (tNotD (tOfB (eCall m__law_is_int (aCons (eIx (lE (eVar 0)) (eC (.int 0))) (aCons (eUn opNeg (eOp (fun _ => opPow) (eC (.int 10)) (eC (.int 18)))) (aCons (eOp (fun _ => opPow) (eC (.int 10)) (eC (.int 18))) (aNil))))))))) (sRet (eC (.bl false))) (sNext)) (sRet (eCall m__law_is_int (aCons (eIx (lE (eVar 0)) (eC (.int 1))) (aCons (eC (.int 0)) (aCons (eOp (fun _ => opPow) (eC (.int 10)) (eC (.int 9))) (aNil))))))
noncomputable def m__law_is_key : Fn := fnD 1 1 b__law_is_key
end L06
namespace L06
/-- _law_deep (0 _law_hand_here, 1 _law_thing, 2 _law_turn) -/
noncomputable def b__law_deep : DS := sSeq (sSet 1 (eCall m__law_any (aCons (eVar 0) (aCons (eFrz (nLst (aCons (eC (.int 0)) (aCons (eTup (aNil)) (aCons (eC (.str "a")) (aNil)))))) (aNil))))) (sSeq (sFor (iRange1 (eOp opAdd (eC (.int 18)) (eCall m__law_draw (aCons (eVar 0) (aCons (eC (.int 12)) (aNil)))))) (gNameD 2) (sSet 1 (eIf (tOfB (eCmp (fun _ => cmpI iGt) (eCall m__law_draw (aCons (eVar 0) (aCons (eC (.int 3)) (aNil)))) (eC (.int 0)))) (eTup (aCons (eVar 1) (aNil))) (eFrz (nLst (aCons (eVar 1) (aNil))))))) (sRet (eVar 1)))
noncomputable def m__law_deep : Fn := fnD 1 3 b__law_deep
end L06
namespace L06
/-- _law_odd (0 _law_hand_here, 1 _law_other, 2 _law_some) -/
noncomputable def b__law_odd : DS := sSeq (sSet 2 (eFrz (nLst (aCons (eC .non) (aCons (eC (.bl true)) (aCons (eC (.bl false)) (aCons (eUn opNeg (eC (.int 1))) (aCons (eC (.int 13)) (aCons (eC (.int 100)) (aCons (eOp (fun _ => opPow) (eC (.int 10)) (eC (.int 59))) (aCons (eC (.str "0")) (aCons (eC (.str "")) (aCons (eTup (aNil)) (aCons (eFrz (nLst (aNil))) (aCons (eDct false) (aCons (eTup (aCons (eC (.int 0)) (aNil))) (aCons (eFrz (nLst (aCons (eC (.int 0)) (aNil)))) (aCons (eTup (aCons (eC (.bl true)) (aNil))) (aCons (eTup (aCons (eC (.str "0")) (aNil))) (aCons (eTup (aCons (eC .non) (aCons (eC (.int 0)) (aNil)))) (aNil))))))))))))))))))))) (sRet (eCall m__law_any (aCons (eVar 0) (aCons (eOp opAdd (eVar 2) (eFrz (nLst (aCons (eDisp (kvCons (eC (.int 0)) (eC (.int 0)) (kvNil))) (aCons (eVar 1) (aCons (eCall m__law_deep (aCons (eVar 0) (aNil))) (aNil))))))) (aNil)))))
noncomputable def m__law_odd : Fn := fnD 2 3 b__law_odd
end L06
namespace L06
/-- _law_key (0 _law_hand_here, 1 _law_many, 2 _law_rank) -/
noncomputable def b__law_key : DS := sSeq (sSet 2 (eCall m__law_any (aCons (eVar 0) (aCons (eFrz (nLst (aCons (eC (.int 0)) (aCons (eC (.int 0)) (aCons (eC (.int 1)) (aCons (eC (.int 2)) (aCons (eUn opNeg (eC (.int 1))) (aCons (eOp (fun _ => opPow) (eC (.int 10)) (eC (.int 18))) (aCons (eUn opNeg (eOp (fun _ => opPow) (eC (.int 10)) (eC (.int 18)))) (aCons (eOp (fun _ => opSub) (eCall m__law_draw (aCons (eVar 0) (aCons (eC (.int 50)) (aNil)))) (eC (.int 25))) (aNil))))))))))) (aNil))))) (sRet (eTup (aCons (eVar 2) (aCons (eCall m__law_draw (aCons (eVar 0) (aCons (eVar 1) (aNil)))) (aNil)))))
noncomputable def m__law_key : Fn := fnD 2 3 b__law_key
end L06
namespace L06
/-- _law_some_key (0 _law_hand_here, 1 _law_other, 2 _law_rank, 3 _law_cell, 4 _law_some) -/
noncomputable def b__law_some_key : DS := sSeq (sAsg (eCall m__law_key (aCons (eVar 0) (aCons (eC (.int 12)) (aNil)))) (gTupD 2 (gsCons (gNameD 2) (gsCons (gNameD 3) (gsNil))))) (sSeq (sSet 4 (eFrz (nLst (aCons (eTup (aCons (eOp opAdd (eOp (fun _ => opPow) (eC (.int 10)) (eC (.int 18))) (eC (.int 1))) (aCons (eVar 3) (aNil)))) (aCons (eTup (aCons (eOp (fun _ => opSub) (eUn opNeg (eOp (fun _ => opPow) (eC (.int 10)) (eC (.int 18)))) (eC (.int 1))) (aCons (eVar 3) (aNil)))) (aCons (eTup (aCons (eVar 2) (aCons (eUn opNeg (eC (.int 1))) (aNil)))) (aCons (eTup (aCons (eC (.bl true)) (aCons (eVar 3) (aNil)))) (aCons (eTup (aCons (eVar 2) (aCons (eC (.bl false)) (aNil)))) (aCons (eTup (aCons (eVar 2) (aNil))) (aCons (eTup (aCons (eVar 2) (aCons (eVar 3) (aCons (eC (.int 0)) (aNil))))) (aNil))))))))))) (sSeq (sSet 4 (eOp opAdd (eVar 4) (eFrz (nLst (aCons (eFrz (nLst (aCons (eVar 2) (aCons (eVar 3) (aNil))))) (aCons (eTup (aCons (eC (.str "0")) (aCons (eVar 3) (aNil)))) (aCons (eTup (aCons (eVar 2) (aCons (eC .non) (aNil)))) (aCons (eTup (aCons (eC .non) (aCons (eVar 3) (aNil)))) (aCons (eVar 2) (aCons (eCall m__law_odd (aCons (eVar 0) (aCons (eVar 1) (aNil)))) (aNil))))))))))) (sRet (eCall m__law_any (aCons (eVar 0) (aCons (eOp opAdd (eFrz (nLst (aCons (eTup (aCons (eVar 2) (aCons (eVar 3) (aNil)))) (aCons (eTup (aCons (eVar 2) (aCons (eVar 3) (aNil)))) (aCons (eTup (aCons (eVar 2) (aCons (eOp (fun _ => opPow) (eC (.int 10)) (eC (.int 9))) (aNil)))) (aNil)))))) (eVar 4)) (aNil)))))))
noncomputable def m__law_some_key : Fn := fnD 2 5 b__law_some_key
end L06
namespace L06
/-- _law_word (0 _law_call, 1 _law_word_here, 2 e, 3 _law_flags) -/
noncomputable def b__law_word (act : Store → Rs D) : DS := sSeq (sSet 1 (eC (.str "let"))) (sSeq (sTry (sDrop (eAct 0 act)) [(["KeyThere", "NoKey", "NoLines", "NoOutput", "NothingThere"], [], some 2, sSeq (sSet 3 (eNew (nLst (aCons (eIsExc 2 ["NoLines"] ["KeyThere", "NoKey", "NoOutput", "NothingThere"]) (aCons (eIsExc 2 ["NoOutput"] ["KeyThere", "NoKey", "NoLines", "NothingThere"]) (aCons (eIsExc 2 ["NoKey"] ["KeyThere", "NoLines", "NoOutput", "NothingThere"]) (aCons (eIsExc 2 ["KeyThere"] ["NoKey", "NoLines", "NoOutput", "NothingThere"]) (aNil)))))))) (sSeq (sDrop (eAppR (eVar 3) (eIsExc 2 ["NothingThere"] ["KeyThere", "NoKey", "NoLines", "NoOutput"]))) (sSeq (sSet 1 (eC (.str "other"))) (sIf (tAndD (tOfB (eCmp cmpEq (eCount (lE (eVar 3)) (eC (.bl true))) (eC (.int 1)))) (tOfB (eIsExc 2 ["KeyThere", "NoKey", "NoLines", "NoOutput", "NothingThere"] []))) (sSet 1 (eIx (lE (eFrz (nLst (aCons (eC (.str "lines")) (aCons (eC (.str "output")) (aCons (eC (.str "key")) (aCons (eC (.str "there")) (aCons (eC (.str "nothing")) (aNil))))))))) (eIndex (lE (eVar 3)) (eC (.bl true))))) (sNext)))))]) (sRet (eVar 1)))
end L06
namespace L06
/-- law (0 _law_script, 1 _law_hand_here, 2 _law_many, 3 _law_outputs, 4 _law_ideal, 5 _law_rows, 6 _law_output, 7 _law_turn, 8 _law_key_here, 9 _law_is_out, 10 _law_is_key_here, 11 _law_pairs, 12 _law_is_new, 13 _law_rank, 14 _law_cell, 15 _law_due, 16 _law_one, 17 _law_row) -/
noncomputable def b_law : DS := sSeq (sSet 1 (eCall m__law_hand (aCons (eVar 0) (aNil)))) (sSeq (sSet 2 (eCall m__law_any (aCons (eVar 1) (aCons (eFrz (nLst (aCons (eC (.int 0)) (aCons (eC (.int 1)) (aCons (eC (.int 12)) (aCons (eC (.int 13)) (aCons (eC (.int 5)) (aCons (eCall m__law_odd (aCons (eVar 1) (aCons (eC .non) (aNil)))) (aNil))))))))) (aNil))))) (sSeq (sIf (tOfB (eCmp cmpNe (eHo (hoD 4 b__law_word) (eMake "Ideal" m_Ideal_init (aCons (eVar 2) (aNil)))) (eIf (tOfB (eCall m__law_is_int (aCons (eVar 2) (aCons (eC (.int 1)) (aCons (eC (.int 12)) (aNil)))))) (eC (.str "let")) (eC (.str "lines"))))) (sRet (eC (.bl false))) (sNext)) (sSeq (sSet 3 (eCall m__law_any (aCons (eVar 1) (aCons (eFrz (nLst (aCons (eC (.int 1)) (aCons (eC (.int 3)) (aCons (eC (.int 12)) (aNil)))))) (aNil))))) (sSeq (sAsg (eTup (aCons (eMake "Ideal" m_Ideal_init (aCons (eVar 3) (aNil))) (aCons (eNew (nLc (iRange1 (eVar 3)) (gNameD 6) (tYesD) (eFrz (nLst (aNil))) [6])) (aNil)))) (gTupD 2 (gsCons (gNameD 4) (gsCons (gNameD 5) (gsNil))))) (sSeq (sFor (iRange1 (eC (.int 10))) (gNameD 7) (sSeq (sAsg (eTup (aCons (eCall m__law_any (aCons (eVar 1) (aCons (eFrz (nLst (aCons (eC (.int 0)) (aCons (eOp (fun _ => opSub) (eVar 3) (eC (.int 1))) (aCons (eVar 3) (aCons (eUn opNeg (eC (.int 1))) (aCons (eCall m__law_odd (aCons (eVar 1) (aCons (eVar 4) (aNil)))) (aNil)))))))) (aNil)))) (aCons (eCall m__law_some_key (aCons (eVar 1) (aCons (eVar 4) (aNil)))) (aNil)))) (gTupD 2 (gsCons (gNameD 6) (gsCons (gNameD 8) (gsNil))))) (sSeq (sPar 9 10 (eCall m__law_is_int (aCons (eVar 6) (aCons (eC (.int 0)) (aCons (eOp (fun _ => opSub) (eVar 3) (eC (.int 1))) (aNil))))) (eCall m__law_is_key (aCons (eVar 8) (aNil)))) (sSeq (sSet 11 (eFrz (nLst (aCons (eTup (aCons (eC (.str "output")) (aCons (eVar 9) (aNil)))) (aCons (eTup (aCons (eC (.str "key")) (aCons (eVar 10) (aNil)))) (aNil)))))) (sSeq (sIf (tOfB (eCmp cmpNe (eHo (hoD 4 b__law_word) (eMeth "Ideal" "due" m_Ideal_due (eVar 4) (aCons (eVar 6) (aNil)))) (eCall m__law_first (aCons (eSlice (lE (eVar 11)) oNone (oSome (eC (.int 1)))) (aNil))))) (sRet (eC (.bl false))) (sNext)) (sSeq (sIf (tOfB (eCmp cmpNe (eHo (hoD 4 b__law_word) (eMeth "Ideal" "held" m_Ideal_held (eVar 4) (aCons (eVar 6) (aNil)))) (eCall m__law_first (aCons (eSlice (lE (eVar 11)) oNone (oSome (eC (.int 1)))) (aNil))))) (sRet (eC (.bl false))) (sNext)) (sSeq (sIf (tOfB (eCmp cmpNe (eHo (hoD 4 b__law_word) (eMeth "Ideal" "ahead" m_Ideal_ahead (eVar 4) (aCons (eVar 6) (aCons (eVar 8) (aNil))))) (eCall m__law_first (aCons (eVar 11) (aNil))))) (sRet (eC (.bl false))) (sNext)) (sSeq (sSet 12 (eOr (eNot (eVar 9)) (eOr (eNot (eVar 10)) (eIn true (eIx (lE (eVar 8)) (eC (.int 1))) (lE (eFrz (nLc (iSeqD (eIx (lE (eVar 5)) (eVar 6))) (gTupD 2 (gsCons (gNameD 13) (gsCons (gNameD 14) (gsNil)))) (tYesD) (eVar 14) [13, 14]))))))) (sSeq (sSet 15 (eCall m__law_first (aCons (eOp opAdd (eVar 11) (eFrz (nLst (aCons (eTup (aCons (eC (.str "there")) (aCons (eVar 12) (aNil)))) (aNil))))) (aNil)))) (sSeq (sIf (tOfB (eCmp cmpNe (eHo (hoD 4 b__law_word) (eMeth "Ideal" "push" m_Ideal_push (eVar 4) (aCons (eVar 6) (aCons (eVar 8) (aNil))))) (eVar 15))) (sRet (eC (.bl false))) (sNext)) (sSeq (sIf (tOfB (eCmp cmpEq (eVar 15) (eC (.str "let")))) (sPutR (eVar 5) (eVar 6) (eCall m__law_inserted (aCons (eIx (lE (eVar 5)) (eVar 6)) (aCons (eVar 8) (aNil))))) (sNext)) (sSeq (sIf (tOfB (eCmp cmpEq (eCall m__law_draw (aCons (eVar 1) (aCons (eC (.int 3)) (aNil)))) (eC (.int 0)))) (sSeq (sSet 15 (eCall m__law_first (aCons (eOp opAdd (eSlice (lE (eVar 11)) oNone (oSome (eC (.int 1)))) (eFrz (nLst (aCons (eTup (aCons (eC (.str "nothing")) (aCons (eAnd (eVar 9) (eCmp (fun _ => cmpI iGt) (eLen (lE (eIx (lE (eVar 5)) (eVar 6)))) (eC (.int 0)))) (aNil)))) (aNil))))) (aNil)))) (sSeq (sIf (tOfB (eCmp cmpNe (eHo (hoD 4 b__law_word) (eMeth "Ideal" "let_go" m_Ideal_let_go (eVar 4) (aCons (eVar 6) (aNil)))) (eVar 15))) (sRet (eC (.bl false))) (sNext)) (sIf (tOfB (eCmp cmpEq (eVar 15) (eC (.str "let")))) (sPutR (eVar 5) (eVar 6) (eSlice (lE (eIx (lE (eVar 5)) (eVar 6))) (oSome (eC (.int 1))) oNone)) (sNext)))) (sNext)) (sIf (tOfB (eCmp cmpNe (eFrz (nLc (iRange1 (eVar 3)) (gNameD 16) (tYesD) (eMeth "Ideal" "held" m_Ideal_held (eVar 4) (aCons (eVar 16) (aNil))) [16])) (eFrz (nLc (iSeqD (eVar 5)) (gNameD 17) (tYesD) (eTupOf (lE (eVar 17))) [17])))) (sRet (eC (.bl false))) (sNext)))))))))))))) (sRet (eC (.bl true))))))))
noncomputable def m_law : Fn := fnD 1 18 b_law
end L06

end
section
set_option Elab.async false
set_option linter.all false
set_option maxRecDepth 100000
set_option maxHeartbeats 4000000
set_option pp.maxSteps 400
namespace L06
open PySem PySem.Spec PyProof.Rows L2 Dn LamX Pg
def top (i : Nat) : Stmt := PySem.Challenge.pw_exactbeats_k06_ideal_outputs_refused.main.body.getD i (.Pass ⟨0, 0, 0, 0⟩)
def fn0 : He.DefD := ⟨("is_integer", none), "is_integer", "is_integer", defArgs (top 2), defBody (top 2), defScope (top 2), [], []⟩
def fn1 : He.DefD := ⟨("is_within", none), "is_within", "is_within", defArgs (top 3), defBody (top 3), defScope (top 3), [], []⟩
def fn2 : He.DefD := ⟨("check_lines", none), "check_lines", "check_lines", defArgs (top 14), defBody (top 14), defScope (top 14), [], []⟩
def fn3 : He.DefD := ⟨("Ideal", some "__init__"), "__init__", "Ideal.__init__", defArgs (inClass (top 19) 0), defBody (inClass (top 19) 0), defScope (inClass (top 19) 0), [], []⟩
def fn4 : He.DefD := ⟨("Ideal", some "check_output"), "check_output", "Ideal.check_output", defArgs (inClass (top 19) 1), defBody (inClass (top 19) 1), defScope (inClass (top 19) 1), [], []⟩
def fn5 : He.DefD := ⟨("is_pair", none), "is_pair", "is_pair", defArgs (top 4), defBody (top 4), defScope (top 4), [], []⟩
def fn6 : He.DefD := ⟨("is_key", none), "is_key", "is_key", defArgs (top 17), defBody (top 17), defScope (top 17), [], []⟩
def fn7 : He.DefD := ⟨("check_key", none), "check_key", "check_key", defArgs (top 18), defBody (top 18), defScope (top 18), [], []⟩
def fn8 : He.DefD := ⟨("Ideal", some "ahead"), "ahead", "Ideal.ahead", defArgs (inClass (top 19) 6), defBody (inClass (top 19) 6), defScope (inClass (top 19) 6), [], []⟩
def fn9 : He.DefD := ⟨("Ideal", some "due"), "due", "Ideal.due", defArgs (inClass (top 19) 3), defBody (inClass (top 19) 3), defScope (inClass (top 19) 3), [], []⟩
def fn10 : He.DefD := ⟨("Ideal", some "held"), "held", "Ideal.held", defArgs (inClass (top 19) 5), defBody (inClass (top 19) 5), defScope (inClass (top 19) 5), [], []⟩
def fn11 : He.DefD := ⟨("Ideal", some "let_go"), "let_go", "Ideal.let_go", defArgs (inClass (top 19) 4), defBody (inClass (top 19) 4), defScope (inClass (top 19) 4), [], []⟩
def fn12 : He.DefD := ⟨("Ideal", some "push"), "push", "Ideal.push", defArgs (inClass (top 19) 2), defBody (inClass (top 19) 2), defScope (inClass (top 19) 2), [], []⟩
def fn13 : He.DefD := ⟨("_law_draw", none), "_law_draw", "_law_draw", defArgs (top 22), defBody (top 22), defScope (top 22), [], []⟩
def fn14 : He.DefD := ⟨("_law_any", none), "_law_any", "_law_any", defArgs (top 23), defBody (top 23), defScope (top 23), [], []⟩
def fn15 : He.DefD := ⟨("_law_first", none), "_law_first", "_law_first", defArgs (top 27), defBody (top 27), defScope (top 27), [], []⟩
def fn16 : He.DefD := ⟨("_law_hand", none), "_law_hand", "_law_hand", defArgs (top 21), defBody (top 21), defScope (top 21), [], []⟩
def fn17 : He.DefD := ⟨("_law_inserted", none), "_law_inserted", "_law_inserted", defArgs (top 29), defBody (top 29), defScope (top 29), [], []⟩
def fn18 : He.DefD := ⟨("_law_is_int", none), "_law_is_int", "_law_is_int", defArgs (top 24), defBody (top 24), defScope (top 24), [], []⟩
def fn19 : He.DefD := ⟨("_law_is_key", none), "_law_is_key", "_law_is_key", defArgs (top 31), defBody (top 31), defScope (top 31), [], []⟩
def fn20 : He.DefD := ⟨("_law_deep", none), "_law_deep", "_law_deep", defArgs (top 25), defBody (top 25), defScope (top 25), [], []⟩
def fn21 : He.DefD := ⟨("_law_odd", none), "_law_odd", "_law_odd", defArgs (top 26), defBody (top 26), defScope (top 26), [], []⟩
def fn22 : He.DefD := ⟨("_law_key", none), "_law_key", "_law_key", defArgs (top 28), defBody (top 28), defScope (top 28), [], []⟩
def fn23 : He.DefD := ⟨("_law_some_key", none), "_law_some_key", "_law_some_key", defArgs (top 32), defBody (top 32), defScope (top 32), [], []⟩
def fn24 : He.DefD := ⟨("_law_word", none), "_law_word", "_law_word", defArgs (top 30), defBody (top 30), defScope (top 30), [], []⟩
def fn25 : He.DefD := ⟨("law", none), "law", "law", defArgs (top 33), defBody (top 33), defScope (top 33), [], []⟩
def fn : List He.DefD := [fn0, fn1, fn2, fn3, fn4, fn5, fn6, fn7, fn8, fn9, fn10, fn11, fn12, fn13, fn14, fn15, fn16, fn17, fn18, fn19, fn20, fn21, fn22, fn23, fn24, fn25]
def fa : List He.Fa := ([.glo "FabricError", .glo "Ideal", .glo "KeyThere", .glo "NoKey", .glo "NoLines", .glo "NoOutput", .glo "NothingThere", .glo "_law_any", .glo "_law_deep", .glo "_law_draw", .glo "_law_first", .glo "_law_hand", .glo "_law_inserted", .glo "_law_is_int", .glo "_law_is_key", .glo "_law_key", .glo "_law_odd", .glo "_law_some_key", .glo "_law_word", .glo "check_key", .glo "check_lines", .glo "is_integer", .glo "is_key", .glo "is_pair", .glo "is_within", .free "ValueError", .free "abs", .free "bool", .free "int", .free "isinstance"] : List He.Fa) ++ ([.free "len", .free "range", .free "sorted", .free "tuple", .int "MOST_LINES" 12, .int "MOST_RANK" 1000000000000000000, .cls "Ideal", .meth "Ideal" "ahead", .meth "Ideal" "check_output", .meth "Ideal" "due", .meth "Ideal" "held", .noat "Ideal" "kept_keys", .meth "Ideal" "let_go", .meth "Ideal" "push", .mkr "Ideal", .exc "KeyThere", .exc "NoKey", .exc "NoLines", .exc "NoOutput", .exc "NothingThere", .exm "KeyThere" "FabricError" true, .exm "NoKey" "FabricError" true, .exm "NoLines" "FabricError" true, .exm "NoOutput" "FabricError" true, .exm "NothingThere" "FabricError" true, .glo "law"] : List He.Fa)
def fx : List Fx := [.xc "KeyThere", .xc "NoKey", .xc "NoLines", .xc "NoOutput", .xc "NothingThere", .isx "KeyThere" "KeyThere" true, .isx "NoKey" "KeyThere" false, .isx "NoLines" "KeyThere" false, .isx "NoOutput" "KeyThere" false, .isx "NothingThere" "KeyThere" false, .isx "KeyThere" "NoKey" false, .isx "NoKey" "NoKey" true, .isx "NoLines" "NoKey" false, .isx "NoOutput" "NoKey" false, .isx "NothingThere" "NoKey" false, .isx "KeyThere" "NoLines" false, .isx "NoKey" "NoLines" false, .isx "NoLines" "NoLines" true, .isx "NoOutput" "NoLines" false, .isx "NothingThere" "NoLines" false, .isx "KeyThere" "NoOutput" false, .isx "NoKey" "NoOutput" false, .isx "NoLines" "NoOutput" false, .isx "NoOutput" "NoOutput" true, .isx "NothingThere" "NoOutput" false, .isx "KeyThere" "NothingThere" false, .isx "NoKey" "NothingThere" false, .isx "NoLines" "NothingThere" false, .isx "NoOutput" "NothingThere" false, .isx "NothingThere" "NothingThere" true, .isb "KeyThere" "ValueError" true, .isb "NoKey" "ValueError" true, .isb "NoLines" "ValueError" true, .isb "NoOutput" "ValueError" true, .isb "NothingThere" "ValueError" true, .ins "Ideal", .isb "Ideal" "bool" false, .isb "Ideal" "int" false, .isb "Ideal" "tuple" false]
def tl : List (He.Defn × Str) := [((("law", none) : He.Defn), "law.<locals>.<lambda>")]
/-- what is known of the text behind the top -/
structure Fc (K : PySem.W.Frag) (mg : Str → Option Value) : Prop where
  g_FabricError : mg "FabricError" = some (.ref (He.ga K "FabricError"))
  g_Ideal : mg "Ideal" = some (.ref (He.ga K "Ideal"))
  g_KeyThere : mg "KeyThere" = some (.ref (He.ga K "KeyThere"))
  g_NoKey : mg "NoKey" = some (.ref (He.ga K "NoKey"))
  g_NoLines : mg "NoLines" = some (.ref (He.ga K "NoLines"))
  g_NoOutput : mg "NoOutput" = some (.ref (He.ga K "NoOutput"))
  g_NothingThere : mg "NothingThere" = some (.ref (He.ga K "NothingThere"))
  g__law_any : mg "_law_any" = some (.ref (He.ga K "_law_any"))
  g__law_deep : mg "_law_deep" = some (.ref (He.ga K "_law_deep"))
  g__law_draw : mg "_law_draw" = some (.ref (He.ga K "_law_draw"))
  g__law_first : mg "_law_first" = some (.ref (He.ga K "_law_first"))
  g__law_hand : mg "_law_hand" = some (.ref (He.ga K "_law_hand"))
  g__law_inserted : mg "_law_inserted" = some (.ref (He.ga K "_law_inserted"))
  g__law_is_int : mg "_law_is_int" = some (.ref (He.ga K "_law_is_int"))
  g__law_is_key : mg "_law_is_key" = some (.ref (He.ga K "_law_is_key"))
  g__law_key : mg "_law_key" = some (.ref (He.ga K "_law_key"))
  g__law_odd : mg "_law_odd" = some (.ref (He.ga K "_law_odd"))
  g__law_some_key : mg "_law_some_key" = some (.ref (He.ga K "_law_some_key"))
  g__law_word : mg "_law_word" = some (.ref (He.ga K "_law_word"))
  g_check_key : mg "check_key" = some (.ref (He.ga K "check_key"))
  g_check_lines : mg "check_lines" = some (.ref (He.ga K "check_lines"))
  g_is_integer : mg "is_integer" = some (.ref (He.ga K "is_integer"))
  g_is_key : mg "is_key" = some (.ref (He.ga K "is_key"))
  g_is_pair : mg "is_pair" = some (.ref (He.ga K "is_pair"))
  g_is_within : mg "is_within" = some (.ref (He.ga K "is_within"))
  b_ValueError : mg "ValueError" = none
  b_abs : mg "abs" = none
  b_bool : mg "bool" = none
  b_int : mg "int" = none
  b_isinstance : mg "isinstance" = none
  b_len : mg "len" = none
  b_range : mg "range" = none
  b_sorted : mg "sorted" = none
  b_tuple : mg "tuple" = none
  j_MOST_LINES : ∃ t, mg "MOST_LINES" = some (.int 12 t)
  j_MOST_RANK : ∃ t, mg "MOST_RANK" = some (.int 1000000000000000000 t)
  c_Ideal : Cls K (He.ga K "Ideal")
  m_Ideal_ahead : Meth K (He.ga K "Ideal") "ahead" (He.ma K (He.ga K "Ideal") "ahead")
  m_Ideal_check_output : Meth K (He.ga K "Ideal") "check_output" (He.ma K (He.ga K "Ideal") "check_output")
  m_Ideal_due : Meth K (He.ga K "Ideal") "due" (He.ma K (He.ga K "Ideal") "due")
  m_Ideal_held : Meth K (He.ga K "Ideal") "held" (He.ma K (He.ga K "Ideal") "held")
  n_Ideal_kept_keys : NoAttr K (He.ga K "Ideal") "kept_keys"
  m_Ideal_let_go : Meth K (He.ga K "Ideal") "let_go" (He.ma K (He.ga K "Ideal") "let_go")
  m_Ideal_push : Meth K (He.ga K "Ideal") "push" (He.ma K (He.ga K "Ideal") "push")
  k_Ideal : Mk K (He.ga K "Ideal") (He.ma K (He.ga K "Ideal") "__init__")
  x_KeyThere : Exc0 K (He.ga K "KeyThere")
  x_NoKey : Exc0 K (He.ga K "NoKey")
  x_NoLines : Exc0 K (He.ga K "NoLines")
  x_NoOutput : Exc0 K (He.ga K "NoOutput")
  x_NothingThere : Exc0 K (He.ga K "NothingThere")
  e_KeyThere_FabricError : PySem.W.exmOne K (.ref (He.ga K "KeyThere")) (.ref (He.ga K "FabricError")) = some true
  e_NoKey_FabricError : PySem.W.exmOne K (.ref (He.ga K "NoKey")) (.ref (He.ga K "FabricError")) = some true
  e_NoLines_FabricError : PySem.W.exmOne K (.ref (He.ga K "NoLines")) (.ref (He.ga K "FabricError")) = some true
  e_NoOutput_FabricError : PySem.W.exmOne K (.ref (He.ga K "NoOutput")) (.ref (He.ga K "FabricError")) = some true
  e_NothingThere_FabricError : PySem.W.exmOne K (.ref (He.ga K "NothingThere")) (.ref (He.ga K "FabricError")) = some true
  xc_KeyThere : L2.ExcC K (He.ga K "KeyThere")
  xc_NoKey : L2.ExcC K (He.ga K "NoKey")
  xc_NoLines : L2.ExcC K (He.ga K "NoLines")
  xc_NoOutput : L2.ExcC K (He.ga K "NoOutput")
  xc_NothingThere : L2.ExcC K (He.ga K "NothingThere")
  i_KeyThere_KeyThere : PySem.W.kitOne K (.ref (He.ga K "KeyThere")) (.ref (He.ga K "KeyThere")) = some true
  i_NoKey_KeyThere : PySem.W.kitOne K (.ref (He.ga K "NoKey")) (.ref (He.ga K "KeyThere")) = some false
  i_NoLines_KeyThere : PySem.W.kitOne K (.ref (He.ga K "NoLines")) (.ref (He.ga K "KeyThere")) = some false
  i_NoOutput_KeyThere : PySem.W.kitOne K (.ref (He.ga K "NoOutput")) (.ref (He.ga K "KeyThere")) = some false
  i_NothingThere_KeyThere : PySem.W.kitOne K (.ref (He.ga K "NothingThere")) (.ref (He.ga K "KeyThere")) = some false
  i_KeyThere_NoKey : PySem.W.kitOne K (.ref (He.ga K "KeyThere")) (.ref (He.ga K "NoKey")) = some false
  i_NoKey_NoKey : PySem.W.kitOne K (.ref (He.ga K "NoKey")) (.ref (He.ga K "NoKey")) = some true
  i_NoLines_NoKey : PySem.W.kitOne K (.ref (He.ga K "NoLines")) (.ref (He.ga K "NoKey")) = some false
  i_NoOutput_NoKey : PySem.W.kitOne K (.ref (He.ga K "NoOutput")) (.ref (He.ga K "NoKey")) = some false
  i_NothingThere_NoKey : PySem.W.kitOne K (.ref (He.ga K "NothingThere")) (.ref (He.ga K "NoKey")) = some false
  i_KeyThere_NoLines : PySem.W.kitOne K (.ref (He.ga K "KeyThere")) (.ref (He.ga K "NoLines")) = some false
  i_NoKey_NoLines : PySem.W.kitOne K (.ref (He.ga K "NoKey")) (.ref (He.ga K "NoLines")) = some false
  i_NoLines_NoLines : PySem.W.kitOne K (.ref (He.ga K "NoLines")) (.ref (He.ga K "NoLines")) = some true
  i_NoOutput_NoLines : PySem.W.kitOne K (.ref (He.ga K "NoOutput")) (.ref (He.ga K "NoLines")) = some false
  i_NothingThere_NoLines : PySem.W.kitOne K (.ref (He.ga K "NothingThere")) (.ref (He.ga K "NoLines")) = some false
  i_KeyThere_NoOutput : PySem.W.kitOne K (.ref (He.ga K "KeyThere")) (.ref (He.ga K "NoOutput")) = some false
  i_NoKey_NoOutput : PySem.W.kitOne K (.ref (He.ga K "NoKey")) (.ref (He.ga K "NoOutput")) = some false
  i_NoLines_NoOutput : PySem.W.kitOne K (.ref (He.ga K "NoLines")) (.ref (He.ga K "NoOutput")) = some false
  i_NoOutput_NoOutput : PySem.W.kitOne K (.ref (He.ga K "NoOutput")) (.ref (He.ga K "NoOutput")) = some true
  i_NothingThere_NoOutput : PySem.W.kitOne K (.ref (He.ga K "NothingThere")) (.ref (He.ga K "NoOutput")) = some false
  i_KeyThere_NothingThere : PySem.W.kitOne K (.ref (He.ga K "KeyThere")) (.ref (He.ga K "NothingThere")) = some false
  i_NoKey_NothingThere : PySem.W.kitOne K (.ref (He.ga K "NoKey")) (.ref (He.ga K "NothingThere")) = some false
  i_NoLines_NothingThere : PySem.W.kitOne K (.ref (He.ga K "NoLines")) (.ref (He.ga K "NothingThere")) = some false
  i_NoOutput_NothingThere : PySem.W.kitOne K (.ref (He.ga K "NoOutput")) (.ref (He.ga K "NothingThere")) = some false
  i_NothingThere_NothingThere : PySem.W.kitOne K (.ref (He.ga K "NothingThere")) (.ref (He.ga K "NothingThere")) = some true
  i_KeyThere_ValueError : PySem.W.kitOne K (.ref (He.ga K "KeyThere")) (.type "ValueError") = some true
  i_NoKey_ValueError : PySem.W.kitOne K (.ref (He.ga K "NoKey")) (.type "ValueError") = some true
  i_NoLines_ValueError : PySem.W.kitOne K (.ref (He.ga K "NoLines")) (.type "ValueError") = some true
  i_NoOutput_ValueError : PySem.W.kitOne K (.ref (He.ga K "NoOutput")) (.type "ValueError") = some true
  i_NothingThere_ValueError : PySem.W.kitOne K (.ref (He.ga K "NothingThere")) (.type "ValueError") = some true
  ic_Ideal : InsK K (He.ga K "Ideal")
  ib_Ideal_bool : PySem.W.kitOne K (.ref (He.ga K "Ideal")) (.type "bool") = some false
  ib_Ideal_int : PySem.W.kitOne K (.ref (He.ga K "Ideal")) (.type "int") = some false
  ib_Ideal_tuple : PySem.W.kitOne K (.ref (He.ga K "Ideal")) (.type "tuple") = some false
  f_is_integer : ∃ fd, FunD K "is_integer" "is_integer" (defArgs (top 2)) (defBody (top 2)) (defScope (top 2)) [] [] (He.fAd K ("is_integer", none)) fd
  f_is_within : ∃ fd, FunD K "is_within" "is_within" (defArgs (top 3)) (defBody (top 3)) (defScope (top 3)) [] [] (He.fAd K ("is_within", none)) fd
  f_check_lines : ∃ fd, FunD K "check_lines" "check_lines" (defArgs (top 14)) (defBody (top 14)) (defScope (top 14)) [] [] (He.fAd K ("check_lines", none)) fd
  f_Ideal_init : ∃ fd, FunD K "__init__" "Ideal.__init__" (defArgs (inClass (top 19) 0)) (defBody (inClass (top 19) 0)) (defScope (inClass (top 19) 0)) [] [] (He.fAd K ("Ideal", some "__init__")) fd
  f_Ideal_check_output : ∃ fd, FunD K "check_output" "Ideal.check_output" (defArgs (inClass (top 19) 1)) (defBody (inClass (top 19) 1)) (defScope (inClass (top 19) 1)) [] [] (He.fAd K ("Ideal", some "check_output")) fd
  f_is_pair : ∃ fd, FunD K "is_pair" "is_pair" (defArgs (top 4)) (defBody (top 4)) (defScope (top 4)) [] [] (He.fAd K ("is_pair", none)) fd
  f_is_key : ∃ fd, FunD K "is_key" "is_key" (defArgs (top 17)) (defBody (top 17)) (defScope (top 17)) [] [] (He.fAd K ("is_key", none)) fd
  f_check_key : ∃ fd, FunD K "check_key" "check_key" (defArgs (top 18)) (defBody (top 18)) (defScope (top 18)) [] [] (He.fAd K ("check_key", none)) fd
  f_Ideal_ahead : ∃ fd, FunD K "ahead" "Ideal.ahead" (defArgs (inClass (top 19) 6)) (defBody (inClass (top 19) 6)) (defScope (inClass (top 19) 6)) [] [] (He.fAd K ("Ideal", some "ahead")) fd
  f_Ideal_due : ∃ fd, FunD K "due" "Ideal.due" (defArgs (inClass (top 19) 3)) (defBody (inClass (top 19) 3)) (defScope (inClass (top 19) 3)) [] [] (He.fAd K ("Ideal", some "due")) fd
  f_Ideal_held : ∃ fd, FunD K "held" "Ideal.held" (defArgs (inClass (top 19) 5)) (defBody (inClass (top 19) 5)) (defScope (inClass (top 19) 5)) [] [] (He.fAd K ("Ideal", some "held")) fd
  f_Ideal_let_go : ∃ fd, FunD K "let_go" "Ideal.let_go" (defArgs (inClass (top 19) 4)) (defBody (inClass (top 19) 4)) (defScope (inClass (top 19) 4)) [] [] (He.fAd K ("Ideal", some "let_go")) fd
  f_Ideal_push : ∃ fd, FunD K "push" "Ideal.push" (defArgs (inClass (top 19) 2)) (defBody (inClass (top 19) 2)) (defScope (inClass (top 19) 2)) [] [] (He.fAd K ("Ideal", some "push")) fd
  f__law_draw : ∃ fd, FunD K "_law_draw" "_law_draw" (defArgs (top 22)) (defBody (top 22)) (defScope (top 22)) [] [] (He.fAd K ("_law_draw", none)) fd
  f__law_any : ∃ fd, FunD K "_law_any" "_law_any" (defArgs (top 23)) (defBody (top 23)) (defScope (top 23)) [] [] (He.fAd K ("_law_any", none)) fd
  f__law_first : ∃ fd, FunD K "_law_first" "_law_first" (defArgs (top 27)) (defBody (top 27)) (defScope (top 27)) [] [] (He.fAd K ("_law_first", none)) fd
  f__law_hand : ∃ fd, FunD K "_law_hand" "_law_hand" (defArgs (top 21)) (defBody (top 21)) (defScope (top 21)) [] [] (He.fAd K ("_law_hand", none)) fd
  f__law_inserted : ∃ fd, FunD K "_law_inserted" "_law_inserted" (defArgs (top 29)) (defBody (top 29)) (defScope (top 29)) [] [] (He.fAd K ("_law_inserted", none)) fd
  f__law_is_int : ∃ fd, FunD K "_law_is_int" "_law_is_int" (defArgs (top 24)) (defBody (top 24)) (defScope (top 24)) [] [] (He.fAd K ("_law_is_int", none)) fd
  f__law_is_key : ∃ fd, FunD K "_law_is_key" "_law_is_key" (defArgs (top 31)) (defBody (top 31)) (defScope (top 31)) [] [] (He.fAd K ("_law_is_key", none)) fd
  f__law_deep : ∃ fd, FunD K "_law_deep" "_law_deep" (defArgs (top 25)) (defBody (top 25)) (defScope (top 25)) [] [] (He.fAd K ("_law_deep", none)) fd
  f__law_odd : ∃ fd, FunD K "_law_odd" "_law_odd" (defArgs (top 26)) (defBody (top 26)) (defScope (top 26)) [] [] (He.fAd K ("_law_odd", none)) fd
  f__law_key : ∃ fd, FunD K "_law_key" "_law_key" (defArgs (top 28)) (defBody (top 28)) (defScope (top 28)) [] [] (He.fAd K ("_law_key", none)) fd
  f__law_some_key : ∃ fd, FunD K "_law_some_key" "_law_some_key" (defArgs (top 32)) (defBody (top 32)) (defScope (top 32)) [] [] (He.fAd K ("_law_some_key", none)) fd
  f__law_word : ∃ fd, FunD K "_law_word" "_law_word" (defArgs (top 30)) (defBody (top 30)) (defScope (top 30)) [] [] (He.fAd K ("_law_word", none)) fd
  f_law : ∃ fd, FunD K "law" "law" (defArgs (top 33)) (defBody (top 33)) (defScope (top 33)) [] [] (He.fAd K ("law", none)) fd
theorem fc_of {K : PySem.W.Frag} {h : Heap} {mg : Str → Option Value} (X : K.In h) (G : h.Ns mainGlobals mg) (c : SaysT fx fa fn (tl.map (·.1)) K) : Fc K mg :=
  ⟨He.glo_ok X G (c.fact 0 (f := .glo "FabricError") rfl),
   He.glo_ok X G (c.fact 1 (f := .glo "Ideal") rfl),
   He.glo_ok X G (c.fact 2 (f := .glo "KeyThere") rfl),
   He.glo_ok X G (c.fact 3 (f := .glo "NoKey") rfl),
   He.glo_ok X G (c.fact 4 (f := .glo "NoLines") rfl),
   He.glo_ok X G (c.fact 5 (f := .glo "NoOutput") rfl),
   He.glo_ok X G (c.fact 6 (f := .glo "NothingThere") rfl),
   He.glo_ok X G (c.fact 7 (f := .glo "_law_any") rfl),
   He.glo_ok X G (c.fact 8 (f := .glo "_law_deep") rfl),
   He.glo_ok X G (c.fact 9 (f := .glo "_law_draw") rfl),
   He.glo_ok X G (c.fact 10 (f := .glo "_law_first") rfl),
   He.glo_ok X G (c.fact 11 (f := .glo "_law_hand") rfl),
   He.glo_ok X G (c.fact 12 (f := .glo "_law_inserted") rfl),
   He.glo_ok X G (c.fact 13 (f := .glo "_law_is_int") rfl),
   He.glo_ok X G (c.fact 14 (f := .glo "_law_is_key") rfl),
   He.glo_ok X G (c.fact 15 (f := .glo "_law_key") rfl),
   He.glo_ok X G (c.fact 16 (f := .glo "_law_odd") rfl),
   He.glo_ok X G (c.fact 17 (f := .glo "_law_some_key") rfl),
   He.glo_ok X G (c.fact 18 (f := .glo "_law_word") rfl),
   He.glo_ok X G (c.fact 19 (f := .glo "check_key") rfl),
   He.glo_ok X G (c.fact 20 (f := .glo "check_lines") rfl),
   He.glo_ok X G (c.fact 21 (f := .glo "is_integer") rfl),
   He.glo_ok X G (c.fact 22 (f := .glo "is_key") rfl),
   He.glo_ok X G (c.fact 23 (f := .glo "is_pair") rfl),
   He.glo_ok X G (c.fact 24 (f := .glo "is_within") rfl),
   He.free_ok X G (c.fact 25 (f := .free "ValueError") rfl),
   He.free_ok X G (c.fact 26 (f := .free "abs") rfl),
   He.free_ok X G (c.fact 27 (f := .free "bool") rfl),
   He.free_ok X G (c.fact 28 (f := .free "int") rfl),
   He.free_ok X G (c.fact 29 (f := .free "isinstance") rfl),
   He.free_ok X G (c.fact 30 (f := .free "len") rfl),
   He.free_ok X G (c.fact 31 (f := .free "range") rfl),
   He.free_ok X G (c.fact 32 (f := .free "sorted") rfl),
   He.free_ok X G (c.fact 33 (f := .free "tuple") rfl),
   He.int_ok X G (c.fact 34 (f := .int "MOST_LINES" 12) rfl),
   He.int_ok X G (c.fact 35 (f := .int "MOST_RANK" 1000000000000000000) rfl),
   He.cls_ok (c.fact 36 (f := .cls "Ideal") rfl),
   He.meth_ok (c.fact 37 (f := .meth "Ideal" "ahead") rfl),
   He.meth_ok (c.fact 38 (f := .meth "Ideal" "check_output") rfl),
   He.meth_ok (c.fact 39 (f := .meth "Ideal" "due") rfl),
   He.meth_ok (c.fact 40 (f := .meth "Ideal" "held") rfl),
   He.noat_ok (c.fact 41 (f := .noat "Ideal" "kept_keys") rfl),
   He.meth_ok (c.fact 42 (f := .meth "Ideal" "let_go") rfl),
   He.meth_ok (c.fact 43 (f := .meth "Ideal" "push") rfl),
   He.mkr_ok (c.fact 44 (f := .mkr "Ideal") rfl),
   exc0_of (He.exc_ok (c.fact 45 (f := .exc "KeyThere") rfl)),
   exc0_of (He.exc_ok (c.fact 46 (f := .exc "NoKey") rfl)),
   exc0_of (He.exc_ok (c.fact 47 (f := .exc "NoLines") rfl)),
   exc0_of (He.exc_ok (c.fact 48 (f := .exc "NoOutput") rfl)),
   exc0_of (He.exc_ok (c.fact 49 (f := .exc "NothingThere") rfl)),
   He.exm_ok (c.fact 50 (f := .exm "KeyThere" "FabricError" true) rfl),
   He.exm_ok (c.fact 51 (f := .exm "NoKey" "FabricError" true) rfl),
   He.exm_ok (c.fact 52 (f := .exm "NoLines" "FabricError" true) rfl),
   He.exm_ok (c.fact 53 (f := .exm "NoOutput" "FabricError" true) rfl),
   He.exm_ok (c.fact 54 (f := .exm "NothingThere" "FabricError" true) rfl),
   xc_ok (c.more 0 (f := .xc "KeyThere") rfl),
   xc_ok (c.more 1 (f := .xc "NoKey") rfl),
   xc_ok (c.more 2 (f := .xc "NoLines") rfl),
   xc_ok (c.more 3 (f := .xc "NoOutput") rfl),
   xc_ok (c.more 4 (f := .xc "NothingThere") rfl),
   isx_ok (c.more 5 (f := .isx "KeyThere" "KeyThere" true) rfl),
   isx_ok (c.more 6 (f := .isx "NoKey" "KeyThere" false) rfl),
   isx_ok (c.more 7 (f := .isx "NoLines" "KeyThere" false) rfl),
   isx_ok (c.more 8 (f := .isx "NoOutput" "KeyThere" false) rfl),
   isx_ok (c.more 9 (f := .isx "NothingThere" "KeyThere" false) rfl),
   isx_ok (c.more 10 (f := .isx "KeyThere" "NoKey" false) rfl),
   isx_ok (c.more 11 (f := .isx "NoKey" "NoKey" true) rfl),
   isx_ok (c.more 12 (f := .isx "NoLines" "NoKey" false) rfl),
   isx_ok (c.more 13 (f := .isx "NoOutput" "NoKey" false) rfl),
   isx_ok (c.more 14 (f := .isx "NothingThere" "NoKey" false) rfl),
   isx_ok (c.more 15 (f := .isx "KeyThere" "NoLines" false) rfl),
   isx_ok (c.more 16 (f := .isx "NoKey" "NoLines" false) rfl),
   isx_ok (c.more 17 (f := .isx "NoLines" "NoLines" true) rfl),
   isx_ok (c.more 18 (f := .isx "NoOutput" "NoLines" false) rfl),
   isx_ok (c.more 19 (f := .isx "NothingThere" "NoLines" false) rfl),
   isx_ok (c.more 20 (f := .isx "KeyThere" "NoOutput" false) rfl),
   isx_ok (c.more 21 (f := .isx "NoKey" "NoOutput" false) rfl),
   isx_ok (c.more 22 (f := .isx "NoLines" "NoOutput" false) rfl),
   isx_ok (c.more 23 (f := .isx "NoOutput" "NoOutput" true) rfl),
   isx_ok (c.more 24 (f := .isx "NothingThere" "NoOutput" false) rfl),
   isx_ok (c.more 25 (f := .isx "KeyThere" "NothingThere" false) rfl),
   isx_ok (c.more 26 (f := .isx "NoKey" "NothingThere" false) rfl),
   isx_ok (c.more 27 (f := .isx "NoLines" "NothingThere" false) rfl),
   isx_ok (c.more 28 (f := .isx "NoOutput" "NothingThere" false) rfl),
   isx_ok (c.more 29 (f := .isx "NothingThere" "NothingThere" true) rfl),
   isb_ok (c.more 30 (f := .isb "KeyThere" "ValueError" true) rfl),
   isb_ok (c.more 31 (f := .isb "NoKey" "ValueError" true) rfl),
   isb_ok (c.more 32 (f := .isb "NoLines" "ValueError" true) rfl),
   isb_ok (c.more 33 (f := .isb "NoOutput" "ValueError" true) rfl),
   isb_ok (c.more 34 (f := .isb "NothingThere" "ValueError" true) rfl),
   ins_ok (c.more 35 (f := .ins "Ideal") rfl),
   isb_ok (c.more 36 (f := .isb "Ideal" "bool" false) rfl),
   isb_ok (c.more 37 (f := .isb "Ideal" "int" false) rfl),
   isb_ok (c.more 38 (f := .isb "Ideal" "tuple" false) rfl),
   c.def_ 0 (d := fn0) rfl,
   c.def_ 1 (d := fn1) rfl,
   c.def_ 2 (d := fn2) rfl,
   c.def_ 3 (d := fn3) rfl,
   c.def_ 4 (d := fn4) rfl,
   c.def_ 5 (d := fn5) rfl,
   c.def_ 6 (d := fn6) rfl,
   c.def_ 7 (d := fn7) rfl,
   c.def_ 8 (d := fn8) rfl,
   c.def_ 9 (d := fn9) rfl,
   c.def_ 10 (d := fn10) rfl,
   c.def_ 11 (d := fn11) rfl,
   c.def_ 12 (d := fn12) rfl,
   c.def_ 13 (d := fn13) rfl,
   c.def_ 14 (d := fn14) rfl,
   c.def_ 15 (d := fn15) rfl,
   c.def_ 16 (d := fn16) rfl,
   c.def_ 17 (d := fn17) rfl,
   c.def_ 18 (d := fn18) rfl,
   c.def_ 19 (d := fn19) rfl,
   c.def_ 20 (d := fn20) rfl,
   c.def_ 21 (d := fn21) rfl,
   c.def_ 22 (d := fn22) rfl,
   c.def_ 23 (d := fn23) rfl,
   c.def_ 24 (d := fn24) rfl,
   c.def_ 25 (d := fn25) rfl⟩
section
variable [Tb] {P : Program} {w : World} {K : PySem.W.Frag} {mg : Str → Option Value} {base : Heap}
theorem sc_is_integer : FnScope ["thing"] (["thing"] : List Str) (defScope (top 2)) := ⟨rfl, rfl, rfl, by decide +kernel, rfl, by decide +kernel, by decide +kernel⟩
theorem ok_is_integer (fc : Fc K mg) (tx : Tx tl K mg base) : ∃ fd, FunD K "is_integer" "is_integer" (defArgs (top 2)) (defBody (top 2)) (defScope (top 2)) [] [] (He.fAd K ("is_integer", none)) fd ∧ FnOk P w K mg base (L2.CX P w) 1 (He.fAd K ("is_integer", none)) fd (["thing"] : List Str) (spD (gk K mg) m_is_integer) ∧ Binds K fd (["thing"] : List Str) [] := by
  obtain ⟨fd, F⟩ := fc.f_is_integer
  have nd : (["thing"] : List Str).Nodup := sc_is_integer.nd
  refine ⟨fd, F, fn_okX (k := 0) F sc_is_integer rfl rfl (fun cdv A outer s H E M0 hr tk po => ?_), F.bindsN fun _ _ _ _ _ _ us hl => match us, hl with | [_], _ => rfl⟩
  exact (ss_one (ss_ret (se_and (se_isTyI (n := "int") (by decide) (insc_cons fc.g_Ideal fc.c_Ideal fc.ic_Ideal fc.ib_Ideal_int (fun _ h => by cases h)) (pe_callB call_isi rfl fc.b_isinstance boot_isinstance (pa_cons (sv 0) (pa_cons (pe_bltn (v := .ty "int") rfl fc.b_int boot_int rfl) pa_nil)))) (se_one (se_not (se_isTyI (n := "bool") (by decide) (insc_cons fc.g_Ideal fc.c_Ideal fc.ic_Ideal fc.ib_Ideal_bool (fun _ h => by cases h)) (pe_callB call_isi rfl fc.b_isinstance boot_isinstance (pa_cons (sv 0) (pa_cons (pe_bltn (v := .ty "bool") rfl fc.b_bool boot_bool rfl) pa_nil)))))))))
theorem sc_is_within : FnScope ["thing", "least", "most"] (["thing", "least", "most"] : List Str) (defScope (top 3)) := ⟨rfl, rfl, rfl, by decide +kernel, rfl, by decide +kernel, by decide +kernel⟩
theorem ok_is_within (fc : Fc K mg) (tx : Tx tl K mg base) : ∃ fd, FunD K "is_within" "is_within" (defArgs (top 3)) (defBody (top 3)) (defScope (top 3)) [] [] (He.fAd K ("is_within", none)) fd ∧ FnOk P w K mg base (L2.CX P w) 2 (He.fAd K ("is_within", none)) fd (["thing", "least", "most"] : List Str) (spD (gk K mg) m_is_within) ∧ Binds K fd (["thing", "least", "most"] : List Str) [] := by
  obtain ⟨fd_is_integer, F_is_integer, O_is_integer, B_is_integer⟩ := ok_is_integer (P := P) (w := w) (base := base) fc tx
  obtain ⟨fd, F⟩ := fc.f_is_within
  have nd : (["thing", "least", "most"] : List Str).Nodup := sc_is_within.nd
  refine ⟨fd, F, fn_okX (k := 1) F sc_is_within rfl rfl (fun cdv A outer s H E M0 hr tk po => ?_), F.bindsN fun _ _ _ _ _ _ us hl => match us, hl with | [_, _, _], _ => rfl⟩
  exact (ss_one (ss_ret (se_and (sx_call (O_is_integer.mono (by decide)) hr rfl fc.g_is_integer F_is_integer.kp B_is_integer tk (sa_cons (sv 0) sa_nil)) (se_one (se_chain (opb_int iLe) (opb_int iLe) (pe_chain op_le op_le (sv 1) (sv 0) (sv 2)))))))
theorem sc_check_lines : FnScope ["thing"] (["thing"] : List Str) (defScope (top 14)) := ⟨rfl, rfl, rfl, by decide +kernel, rfl, by decide +kernel, by decide +kernel⟩
theorem ok_check_lines (fc : Fc K mg) (tx : Tx tl K mg base) : ∃ fd, FunD K "check_lines" "check_lines" (defArgs (top 14)) (defBody (top 14)) (defScope (top 14)) [] [] (He.fAd K ("check_lines", none)) fd ∧ FnOk P w K mg base (L2.CX P w) 3 (He.fAd K ("check_lines", none)) fd (["thing"] : List Str) (spD (gk K mg) m_check_lines) ∧ Binds K fd (["thing"] : List Str) [] := by
  obtain ⟨fd_is_within, F_is_within, O_is_within, B_is_within⟩ := ok_is_within (P := P) (w := w) (base := base) fc tx
  obtain ⟨t_MOST_LINES, i_MOST_LINES⟩ := fc.j_MOST_LINES
  obtain ⟨fd, F⟩ := fc.f_check_lines
  have nd : (["thing"] : List Str).Nodup := sc_check_lines.nd
  refine ⟨fd, F, fn_okX (k := 2) F sc_check_lines rfl rfl (fun cdv A outer s H E M0 hr tk po => ?_), F.bindsN fun _ _ _ _ _ _ us hl => match us, hl with | [_], _ => rfl⟩
  exact (ss_one (ss_if (st_not (st_val (sx_call (O_is_within.mono (by decide)) hr rfl fc.g_is_within F_is_within.kp B_is_within tk (sa_cons (sv 0) (sa_cons se_int (sa_cons (se_gint rfl i_MOST_LINES) sa_nil)))) (fun _ => rfl))) (ss_one (ss_raise rfl tk fc.x_NoLines fc.g_NoLines rfl)) ss_nil))
theorem sc_Ideal_init : FnScope ["self", "outputs", "output"] (["self", "outputs"] : List Str) (defScope (inClass (top 19) 0)) := ⟨rfl, rfl, rfl, by decide +kernel, rfl, by decide +kernel, by decide +kernel⟩
theorem ok_Ideal_init (fc : Fc K mg) (tx : Tx tl K mg base) : ∃ fd, FunD K "__init__" "Ideal.__init__" (defArgs (inClass (top 19) 0)) (defBody (inClass (top 19) 0)) (defScope (inClass (top 19) 0)) [] [] (He.fAd K ("Ideal", some "__init__")) fd ∧ FnOk P w K mg base (L2.CX P w) 4 (He.fAd K ("Ideal", some "__init__")) fd (["self", "outputs"] : List Str) (spD (gk K mg) m_Ideal_init) ∧ Binds K fd (["self", "outputs"] : List Str) [] := by
  obtain ⟨fd_check_lines, F_check_lines, O_check_lines, B_check_lines⟩ := ok_check_lines (P := P) (w := w) (base := base) fc tx
  obtain ⟨fd, F⟩ := fc.f_Ideal_init
  have nd : (["self", "outputs", "output"] : List Str).Nodup := sc_Ideal_init.nd
  refine ⟨fd, F, fn_okX (k := 3) F sc_Ideal_init rfl rfl (fun cdv A outer s H E M0 hr tk po => ?_), F.bindsN fun _ _ _ _ _ _ us hl => match us, hl with | [_, _], _ => rfl⟩
  exact (ss_cons (ss_drop (sx_call (O_check_lines.mono (by decide)) hr rfl fc.g_check_lines F_check_lines.kp B_check_lines tk (sa_cons (sv 1) sa_nil)))
    (ss_one (ss_fld (cs := ["Ideal"]) (by intro c hc; simp only [List.mem_cons, List.not_mem_nil, or_false] at hc; subst hc; exact fld_of fc.g_Ideal fc.c_Ideal fc.n_Ideal_kept_keys) (ps_fld (sv 0) (se_new (sn_lcT g_name (gs_in rfl) (pe_lc (own := [("output", 2)]) rfl nd (si_range1 (pi_range1 rfl fc.b_range (pa_cons (sv 1) pa_nil))) (blkOk_by (N := ["self", "outputs", "output"]) (sc := defScope (inClass (top 19) 0)) (by decide +kernel)) (fun _ _ _ _ _ => (pg_name (i := 2) nd rfl (by first | exact Or.inl rfl | exact Or.inr rfl))) (fun _ _ _ _ _ => pts_y) (fun _ _ _ _ _ => (se_new (sn_lst sa_nil)))))) rfl))))
theorem sc_Ideal_check_output : FnScope ["self", "thing"] (["self", "thing"] : List Str) (defScope (inClass (top 19) 1)) := ⟨rfl, rfl, rfl, by decide +kernel, rfl, by decide +kernel, by decide +kernel⟩
theorem ok_Ideal_check_output (fc : Fc K mg) (tx : Tx tl K mg base) : ∃ fd, FunD K "check_output" "Ideal.check_output" (defArgs (inClass (top 19) 1)) (defBody (inClass (top 19) 1)) (defScope (inClass (top 19) 1)) [] [] (He.fAd K ("Ideal", some "check_output")) fd ∧ FnOk P w K mg base (L2.CX P w) 3 (He.fAd K ("Ideal", some "check_output")) fd (["self", "thing"] : List Str) (spD (gk K mg) m_Ideal_check_output) ∧ Binds K fd (["self", "thing"] : List Str) [] := by
  obtain ⟨fd_is_within, F_is_within, O_is_within, B_is_within⟩ := ok_is_within (P := P) (w := w) (base := base) fc tx
  obtain ⟨fd, F⟩ := fc.f_Ideal_check_output
  have nd : (["self", "thing"] : List Str).Nodup := sc_Ideal_check_output.nd
  refine ⟨fd, F, fn_okX (k := 2) F sc_Ideal_check_output rfl rfl (fun cdv A outer s H E M0 hr tk po => ?_), F.bindsN fun _ _ _ _ _ _ us hl => match us, hl with | [_, _], _ => rfl⟩
  exact (ss_one (ss_if (st_not (st_val (sx_call (O_is_within.mono (by decide)) hr rfl fc.g_is_within F_is_within.kp B_is_within tk (sa_cons (sv 1) (sa_cons se_int (sa_cons (se_op op_sub ops_sub (se_l1 l1_len (pe_callB call_len_seq rfl fc.b_len boot_len (pa_cons (sl_e (se_fld (cs := ["Ideal"]) (by intro c hc; simp only [List.mem_cons, List.not_mem_nil, or_false] at hc; subst hc; exact fld_of fc.g_Ideal fc.c_Ideal fc.n_Ideal_kept_keys) (sv 0) rfl)) pa_nil))) se_int) sa_nil)))) (fun _ => rfl))) (ss_one (ss_raise rfl tk fc.x_NoOutput fc.g_NoOutput rfl)) ss_nil))
theorem sc_is_pair : FnScope ["thing"] (["thing"] : List Str) (defScope (top 4)) := ⟨rfl, rfl, rfl, by decide +kernel, rfl, by decide +kernel, by decide +kernel⟩
theorem ok_is_pair (fc : Fc K mg) (tx : Tx tl K mg base) : ∃ fd, FunD K "is_pair" "is_pair" (defArgs (top 4)) (defBody (top 4)) (defScope (top 4)) [] [] (He.fAd K ("is_pair", none)) fd ∧ FnOk P w K mg base (L2.CX P w) 1 (He.fAd K ("is_pair", none)) fd (["thing"] : List Str) (spD (gk K mg) m_is_pair) ∧ Binds K fd (["thing"] : List Str) [] := by
  obtain ⟨fd, F⟩ := fc.f_is_pair
  have nd : (["thing"] : List Str).Nodup := sc_is_pair.nd
  refine ⟨fd, F, fn_okX (k := 0) F sc_is_pair rfl rfl (fun cdv A outer s H E M0 hr tk po => ?_), F.bindsN fun _ _ _ _ _ _ us hl => match us, hl with | [_], _ => rfl⟩
  exact (ss_one (ss_ret (se_and (se_isTyI (n := "tuple") (by decide) (insc_cons fc.g_Ideal fc.c_Ideal fc.ic_Ideal fc.ib_Ideal_tuple (fun _ h => by cases h)) (pe_callB call_isi rfl fc.b_isinstance boot_isinstance (pa_cons (sv 0) (pa_cons (pe_bltn (v := .ty "tuple") rfl fc.b_tuple boot_tuple rfl) pa_nil)))) (se_one (se_cmp (op_eqD (hu64 hr)) opb_eq (se_l1 l1_len (pe_callB call_len_seq rfl fc.b_len boot_len (pa_cons (sl_e (sv 0)) pa_nil))) se_int (nomark _))))))
theorem sc_is_key : FnScope ["thing"] (["thing"] : List Str) (defScope (top 17)) := ⟨rfl, rfl, rfl, by decide +kernel, rfl, by decide +kernel, by decide +kernel⟩
theorem ok_is_key (fc : Fc K mg) (tx : Tx tl K mg base) : ∃ fd, FunD K "is_key" "is_key" (defArgs (top 17)) (defBody (top 17)) (defScope (top 17)) [] [] (He.fAd K ("is_key", none)) fd ∧ FnOk P w K mg base (L2.CX P w) 3 (He.fAd K ("is_key", none)) fd (["thing"] : List Str) (spD (gk K mg) m_is_key) ∧ Binds K fd (["thing"] : List Str) [] := by
  obtain ⟨fd_is_integer, F_is_integer, O_is_integer, B_is_integer⟩ := ok_is_integer (P := P) (w := w) (base := base) fc tx
  obtain ⟨fd_is_pair, F_is_pair, O_is_pair, B_is_pair⟩ := ok_is_pair (P := P) (w := w) (base := base) fc tx
  obtain ⟨fd_is_within, F_is_within, O_is_within, B_is_within⟩ := ok_is_within (P := P) (w := w) (base := base) fc tx
  obtain ⟨t_MOST_RANK, i_MOST_RANK⟩ := fc.j_MOST_RANK
  obtain ⟨fd, F⟩ := fc.f_is_key
  have nd : (["thing"] : List Str).Nodup := sc_is_key.nd
  refine ⟨fd, F, fn_okX (k := 2) F sc_is_key rfl rfl (fun cdv A outer s H E M0 hr tk po => ?_), F.bindsN fun _ _ _ _ _ _ us hl => match us, hl with | [_], _ => rfl⟩
  exact (ss_one (ss_ret (se_and (sx_call (O_is_pair.mono (by decide)) hr rfl fc.g_is_pair F_is_pair.kp B_is_pair tk (sa_cons (sv 0) sa_nil)) (se_and (sx_call (O_is_within.mono (by decide)) hr rfl fc.g_is_within F_is_within.kp B_is_within tk (sa_cons (se_ix (sl_e (sv 0)) se_int (fun _ _ => rfl)) (sa_cons (se_neg (se_gint rfl i_MOST_RANK)) (sa_cons (se_gint rfl i_MOST_RANK) sa_nil)))) (se_and (sx_call (O_is_integer.mono (by decide)) hr rfl fc.g_is_integer F_is_integer.kp B_is_integer tk (sa_cons (se_ix (sl_e (sv 0)) se_int (fun _ _ => rfl)) sa_nil)) (se_one (se_cmp op_ge (opb_int iGe) (se_ix (sl_e (sv 0)) se_int (fun _ _ => rfl)) se_int (nomark _))))))))
theorem sc_check_key : FnScope ["thing"] (["thing"] : List Str) (defScope (top 18)) := ⟨rfl, rfl, rfl, by decide +kernel, rfl, by decide +kernel, by decide +kernel⟩
theorem ok_check_key (fc : Fc K mg) (tx : Tx tl K mg base) : ∃ fd, FunD K "check_key" "check_key" (defArgs (top 18)) (defBody (top 18)) (defScope (top 18)) [] [] (He.fAd K ("check_key", none)) fd ∧ FnOk P w K mg base (L2.CX P w) 4 (He.fAd K ("check_key", none)) fd (["thing"] : List Str) (spD (gk K mg) m_check_key) ∧ Binds K fd (["thing"] : List Str) [] := by
  obtain ⟨fd_is_key, F_is_key, O_is_key, B_is_key⟩ := ok_is_key (P := P) (w := w) (base := base) fc tx
  obtain ⟨fd, F⟩ := fc.f_check_key
  have nd : (["thing"] : List Str).Nodup := sc_check_key.nd
  refine ⟨fd, F, fn_okX (k := 3) F sc_check_key rfl rfl (fun cdv A outer s H E M0 hr tk po => ?_), F.bindsN fun _ _ _ _ _ _ us hl => match us, hl with | [_], _ => rfl⟩
  exact (ss_one (ss_if (st_not (st_val (sx_call (O_is_key.mono (by decide)) hr rfl fc.g_is_key F_is_key.kp B_is_key tk (sa_cons (sv 0) sa_nil)) (fun _ => rfl))) (ss_one (ss_raise rfl tk fc.x_NoKey fc.g_NoKey rfl)) ss_nil))
theorem sc_Ideal_ahead : FnScope ["self", "output", "key", "one"] (["self", "output", "key"] : List Str) (defScope (inClass (top 19) 6)) := ⟨rfl, rfl, rfl, by decide +kernel, rfl, by decide +kernel, by decide +kernel⟩
theorem ok_Ideal_ahead (fc : Fc K mg) (tx : Tx tl K mg base) : ∃ fd, FunD K "ahead" "Ideal.ahead" (defArgs (inClass (top 19) 6)) (defBody (inClass (top 19) 6)) (defScope (inClass (top 19) 6)) [] [] (He.fAd K ("Ideal", some "ahead")) fd ∧ FnOk P w K mg base (L2.CX P w) 5 (He.fAd K ("Ideal", some "ahead")) fd (["self", "output", "key"] : List Str) (spD (gk K mg) m_Ideal_ahead) ∧ Binds K fd (["self", "output", "key"] : List Str) [] := by
  obtain ⟨fd_Ideal_check_output, F_Ideal_check_output, O_Ideal_check_output, B_Ideal_check_output⟩ := ok_Ideal_check_output (P := P) (w := w) (base := base) fc tx
  obtain ⟨fd_check_key, F_check_key, O_check_key, B_check_key⟩ := ok_check_key (P := P) (w := w) (base := base) fc tx
  obtain ⟨fd, F⟩ := fc.f_Ideal_ahead
  have nd : (["self", "output", "key", "one"] : List Str).Nodup := sc_Ideal_ahead.nd
  refine ⟨fd, F, fn_okX (k := 4) F sc_Ideal_ahead rfl rfl (fun cdv A outer s H E M0 hr tk po => ?_), F.bindsN fun _ _ _ _ _ _ us hl => match us, hl with | [_, _, _], _ => rfl⟩
  exact (ss_cons (ss_drop (sx_meth fc.g_Ideal (sv 0) fc.c_Ideal fc.m_Ideal_check_output (O_Ideal_check_output.mono (by decide)) hr B_Ideal_check_output tk (sa_cons (sv 1) sa_nil)))
    (ss_cons (ss_drop (sx_call (O_check_key.mono (by decide)) hr rfl fc.g_check_key F_check_key.kp B_check_key tk (sa_cons (sv 2) sa_nil)))
    (ss_one (ss_ret (se_l1 l1_len (pe_callB call_len_seq rfl fc.b_len boot_len (pa_cons (sl_e (se_frz (sn_lcT g_name (gs_in rfl) (pe_lc (own := [("one", 3)]) rfl nd (si_seq (se_ix (sl_e (se_fld (cs := ["Ideal"]) (by intro c hc; simp only [List.mem_cons, List.not_mem_nil, or_false] at hc; subst hc; exact fld_of fc.g_Ideal fc.c_Ideal fc.n_Ideal_kept_keys) (sv 0) rfl)) (sv 1) (fun _ _ => rfl))) (blkOk_by (N := ["self", "output", "key", "one"]) (sc := defScope (inClass (top 19) 6)) (by decide +kernel)) (fun _ _ _ _ _ => (pg_name (i := 3) nd rfl (by first | exact Or.inl rfl | exact Or.inr rfl))) (fun _ _ _ _ _ => (pts_one (st_cmp (op_ltD (hu64 hr)) opb_lt (sv 3) (sv 2) (nomark _)))) (fun _ _ _ _ _ => (sv 3)))))) pa_nil)))))))
theorem sc_Ideal_due : FnScope ["self", "output"] (["self", "output"] : List Str) (defScope (inClass (top 19) 3)) := ⟨rfl, rfl, rfl, by decide +kernel, rfl, by decide +kernel, by decide +kernel⟩
theorem ok_Ideal_due (fc : Fc K mg) (tx : Tx tl K mg base) : ∃ fd, FunD K "due" "Ideal.due" (defArgs (inClass (top 19) 3)) (defBody (inClass (top 19) 3)) (defScope (inClass (top 19) 3)) [] [] (He.fAd K ("Ideal", some "due")) fd ∧ FnOk P w K mg base (L2.CX P w) 4 (He.fAd K ("Ideal", some "due")) fd (["self", "output"] : List Str) (spD (gk K mg) m_Ideal_due) ∧ Binds K fd (["self", "output"] : List Str) [] := by
  obtain ⟨fd_Ideal_check_output, F_Ideal_check_output, O_Ideal_check_output, B_Ideal_check_output⟩ := ok_Ideal_check_output (P := P) (w := w) (base := base) fc tx
  obtain ⟨fd, F⟩ := fc.f_Ideal_due
  have nd : (["self", "output"] : List Str).Nodup := sc_Ideal_due.nd
  refine ⟨fd, F, fn_okX (k := 3) F sc_Ideal_due rfl rfl (fun cdv A outer s H E M0 hr tk po => ?_), F.bindsN fun _ _ _ _ _ _ us hl => match us, hl with | [_, _], _ => rfl⟩
  exact (ss_cons (ss_drop (sx_meth fc.g_Ideal (sv 0) fc.c_Ideal fc.m_Ideal_check_output (O_Ideal_check_output.mono (by decide)) hr B_Ideal_check_output tk (sa_cons (sv 1) sa_nil)))
    (ss_one (ss_ret (se_if (st_cmp op_gt (opb_int iGt) (se_l1 l1_len (pe_callB call_len_seq rfl fc.b_len boot_len (pa_cons (sl_e (se_ix (sl_e (se_fld (cs := ["Ideal"]) (by intro c hc; simp only [List.mem_cons, List.not_mem_nil, or_false] at hc; subst hc; exact fld_of fc.g_Ideal fc.c_Ideal fc.n_Ideal_kept_keys) (sv 0) rfl)) (sv 1) (fun _ _ => rfl))) pa_nil))) se_int (nomark _)) (se_ix (sl_e (se_ix (sl_e (se_fld (cs := ["Ideal"]) (by intro c hc; simp only [List.mem_cons, List.not_mem_nil, or_false] at hc; subst hc; exact fld_of fc.g_Ideal fc.c_Ideal fc.n_Ideal_kept_keys) (sv 0) rfl)) (sv 1) (fun _ _ => rfl))) se_int (fun _ _ => rfl)) se_non))))
theorem sc_Ideal_held : FnScope ["self", "output"] (["self", "output"] : List Str) (defScope (inClass (top 19) 5)) := ⟨rfl, rfl, rfl, by decide +kernel, rfl, by decide +kernel, by decide +kernel⟩
theorem ok_Ideal_held (fc : Fc K mg) (tx : Tx tl K mg base) : ∃ fd, FunD K "held" "Ideal.held" (defArgs (inClass (top 19) 5)) (defBody (inClass (top 19) 5)) (defScope (inClass (top 19) 5)) [] [] (He.fAd K ("Ideal", some "held")) fd ∧ FnOk P w K mg base (L2.CX P w) 4 (He.fAd K ("Ideal", some "held")) fd (["self", "output"] : List Str) (spD (gk K mg) m_Ideal_held) ∧ Binds K fd (["self", "output"] : List Str) [] := by
  obtain ⟨fd_Ideal_check_output, F_Ideal_check_output, O_Ideal_check_output, B_Ideal_check_output⟩ := ok_Ideal_check_output (P := P) (w := w) (base := base) fc tx
  obtain ⟨fd, F⟩ := fc.f_Ideal_held
  have nd : (["self", "output"] : List Str).Nodup := sc_Ideal_held.nd
  refine ⟨fd, F, fn_okX (k := 3) F sc_Ideal_held rfl rfl (fun cdv A outer s H E M0 hr tk po => ?_), F.bindsN fun _ _ _ _ _ _ us hl => match us, hl with | [_, _], _ => rfl⟩
  exact (ss_cons (ss_drop (sx_meth fc.g_Ideal (sv 0) fc.c_Ideal fc.m_Ideal_check_output (O_Ideal_check_output.mono (by decide)) hr B_Ideal_check_output tk (sa_cons (sv 1) sa_nil)))
    (ss_one (ss_ret (se_tupOf (pe_callTy call_tuple_of rfl fc.b_tuple boot_tuple (pa_cons (sl_e (se_ix (sl_e (se_fld (cs := ["Ideal"]) (by intro c hc; simp only [List.mem_cons, List.not_mem_nil, or_false] at hc; subst hc; exact fld_of fc.g_Ideal fc.c_Ideal fc.n_Ideal_kept_keys) (sv 0) rfl)) (sv 1) (fun _ _ => rfl))) pa_nil))))))
theorem sc_Ideal_let_go : FnScope ["self", "output"] (["self", "output"] : List Str) (defScope (inClass (top 19) 4)) := ⟨rfl, rfl, rfl, by decide +kernel, rfl, by decide +kernel, by decide +kernel⟩
theorem ok_Ideal_let_go (fc : Fc K mg) (tx : Tx tl K mg base) : ∃ fd, FunD K "let_go" "Ideal.let_go" (defArgs (inClass (top 19) 4)) (defBody (inClass (top 19) 4)) (defScope (inClass (top 19) 4)) [] [] (He.fAd K ("Ideal", some "let_go")) fd ∧ FnOk P w K mg base (L2.CX P w) 4 (He.fAd K ("Ideal", some "let_go")) fd (["self", "output"] : List Str) (spD (gk K mg) m_Ideal_let_go) ∧ Binds K fd (["self", "output"] : List Str) [] := by
  obtain ⟨fd_Ideal_check_output, F_Ideal_check_output, O_Ideal_check_output, B_Ideal_check_output⟩ := ok_Ideal_check_output (P := P) (w := w) (base := base) fc tx
  obtain ⟨fd, F⟩ := fc.f_Ideal_let_go
  have nd : (["self", "output"] : List Str).Nodup := sc_Ideal_let_go.nd
  refine ⟨fd, F, fn_okX (k := 3) F sc_Ideal_let_go rfl rfl (fun cdv A outer s H E M0 hr tk po => ?_), F.bindsN fun _ _ _ _ _ _ us hl => match us, hl with | [_, _], _ => rfl⟩
  exact (ss_cons (ss_drop (sx_meth fc.g_Ideal (sv 0) fc.c_Ideal fc.m_Ideal_check_output (O_Ideal_check_output.mono (by decide)) hr B_Ideal_check_output tk (sa_cons (sv 1) sa_nil)))
    (ss_cons (ss_if (st_cmp (op_eqD (hu64 hr)) opb_eq (se_l1 l1_len (pe_callB call_len_seq rfl fc.b_len boot_len (pa_cons (sl_e (se_ix (sl_e (se_fld (cs := ["Ideal"]) (by intro c hc; simp only [List.mem_cons, List.not_mem_nil, or_false] at hc; subst hc; exact fld_of fc.g_Ideal fc.c_Ideal fc.n_Ideal_kept_keys) (sv 0) rfl)) (sv 1) (fun _ _ => rfl))) pa_nil))) se_int (nomark _)) (ss_one (ss_raise rfl tk fc.x_NothingThere fc.g_NothingThere rfl)) ss_nil)
    (ss_one (ss_ret (se_popR (pe_bm PySem.F.plainAttrs_list PySem.F.slot_list_pop PySem.F.type_list_pop mt_popAtB (se_ix (sl_e (se_fld (cs := ["Ideal"]) (by intro c hc; simp only [List.mem_cons, List.not_mem_nil, or_false] at hc; subst hc; exact fld_of fc.g_Ideal fc.c_Ideal fc.n_Ideal_kept_keys) (sv 0) rfl)) (sv 1) (fun _ _ => rfl)) (pa_cons se_int pa_nil)))))))
theorem sc_Ideal_push : FnScope ["self", "output", "key", "rank", "cell"] (["self", "output", "key"] : List Str) (defScope (inClass (top 19) 2)) := ⟨rfl, rfl, rfl, by decide +kernel, rfl, by decide +kernel, by decide +kernel⟩
theorem ok_Ideal_push (fc : Fc K mg) (tx : Tx tl K mg base) : ∃ fd, FunD K "push" "Ideal.push" (defArgs (inClass (top 19) 2)) (defBody (inClass (top 19) 2)) (defScope (inClass (top 19) 2)) [] [] (He.fAd K ("Ideal", some "push")) fd ∧ FnOk P w K mg base (L2.CX P w) 5 (He.fAd K ("Ideal", some "push")) fd (["self", "output", "key"] : List Str) (spD (gk K mg) m_Ideal_push) ∧ Binds K fd (["self", "output", "key"] : List Str) [] := by
  obtain ⟨fd_Ideal_check_output, F_Ideal_check_output, O_Ideal_check_output, B_Ideal_check_output⟩ := ok_Ideal_check_output (P := P) (w := w) (base := base) fc tx
  obtain ⟨fd_check_key, F_check_key, O_check_key, B_check_key⟩ := ok_check_key (P := P) (w := w) (base := base) fc tx
  obtain ⟨fd, F⟩ := fc.f_Ideal_push
  have nd : (["self", "output", "key", "rank", "cell"] : List Str).Nodup := sc_Ideal_push.nd
  refine ⟨fd, F, fn_okX (k := 4) F sc_Ideal_push rfl rfl (fun cdv A outer s H E M0 hr tk po => ?_), F.bindsN fun _ _ _ _ _ _ us hl => match us, hl with | [_, _, _], _ => rfl⟩
  exact (ss_cons (ss_drop (sx_meth fc.g_Ideal (sv 0) fc.c_Ideal fc.m_Ideal_check_output (O_Ideal_check_output.mono (by decide)) hr B_Ideal_check_output tk (sa_cons (sv 1) sa_nil)))
    (ss_cons (ss_drop (sx_call (O_check_key.mono (by decide)) hr rfl fc.g_check_key F_check_key.kp B_check_key tk (sa_cons (sv 2) sa_nil)))
    (ss_cons (ss_if (st_in (op_inA (hu65 hr)) (se_ix (sl_e (sv 2)) se_int (fun _ _ => rfl)) (sl_e (se_frz (sn_lcT (g_tup (gs_cons g_name (gs_cons g_name gs_nil))) (gs_in rfl) (pe_lc (own := [("rank", 3), ("cell", 4)]) rfl nd (si_seq (se_ix (sl_e (se_fld (cs := ["Ideal"]) (by intro c hc; simp only [List.mem_cons, List.not_mem_nil, or_false] at hc; subst hc; exact fld_of fc.g_Ideal fc.c_Ideal fc.n_Ideal_kept_keys) (sv 0) rfl)) (sv 1) (fun _ _ => rfl))) (blkOk_by (N := ["self", "output", "key", "rank", "cell"]) (sc := defScope (inClass (top 19) 2)) (by decide +kernel)) (fun _ _ _ _ _ => (pg_tup rfl (pgs_cons (pg_name (i := 3) nd rfl (by first | exact Or.inl rfl | exact Or.inr rfl)) (pgs_cons (pg_name (i := 4) nd rfl (by first | exact Or.inl rfl | exact Or.inr rfl)) pgs_nil)))) (fun _ _ _ _ _ => pts_y) (fun _ _ _ _ _ => (sv 4)))))) (by with_unfolding_all rfl)) (ss_one (ss_raise rfl tk fc.x_KeyThere fc.g_KeyThere rfl)) ss_nil)
    (ss_one (ss_putR (ps_asg (se_new (sn_sorted (pe_callB (cr_sortD (hu70 hr)) rfl fc.b_sorted boot_sorted (pa_cons (sl_e (se_op op_addA ops_add (se_ix (sl_e (se_fld (cs := ["Ideal"]) (by intro c hc; simp only [List.mem_cons, List.not_mem_nil, or_false] at hc; subst hc; exact fld_of fc.g_Ideal fc.c_Ideal fc.n_Ideal_kept_keys) (sv 0) rfl)) (sv 1) (fun _ _ => rfl)) (se_frz (sn_lst (sa_cons (sv 2) sa_nil))))) pa_nil)))) (pg_sub (se_fld (cs := ["Ideal"]) (by intro c hc; simp only [List.mem_cons, List.not_mem_nil, or_false] at hc; subst hc; exact fld_of fc.g_Ideal fc.c_Ideal fc.n_Ideal_kept_keys) (sv 0) rfl) (sv 1) set_list)))))))
theorem sc__law_draw : FnScope ["_law_hand_here", "_law_many", "_law_cell", "_law_digit", "_law_number"] (["_law_hand_here", "_law_many"] : List Str) (defScope (top 22)) := ⟨rfl, rfl, rfl, by decide +kernel, rfl, by decide +kernel, by decide +kernel⟩
theorem ok__law_draw (fc : Fc K mg) (tx : Tx tl K mg base) : ∃ fd, FunD K "_law_draw" "_law_draw" (defArgs (top 22)) (defBody (top 22)) (defScope (top 22)) [] [] (He.fAd K ("_law_draw", none)) fd ∧ FnOk P w K mg base (L2.CX P w) 1 (He.fAd K ("_law_draw", none)) fd (["_law_hand_here", "_law_many"] : List Str) (spD (gk K mg) m__law_draw) ∧ Binds K fd (["_law_hand_here", "_law_many"] : List Str) [] := by
  obtain ⟨fd, F⟩ := fc.f__law_draw
  have nd : (["_law_hand_here", "_law_many", "_law_cell", "_law_digit", "_law_number"] : List Str).Nodup := sc__law_draw.nd
  refine ⟨fd, F, fn_okX (k := 0) F sc__law_draw rfl rfl (fun cdv A outer s H E M0 hr tk po => ?_), F.bindsN fun _ _ _ _ _ _ us hl => match us, hl with | [_, _], _ => rfl⟩
  exact (ss_cons (ss_if (st_w (sw_and (st_cmp (op_eqD (hu64 hr)) opb_eq (se_ix (sl_e (sv 0)) se_int (fun _ _ => rfl)) se_int (nomark _)) (sw_and1 (st_cmp op_lt (opb_int iLt) (se_ix (sl_e (sv 0)) se_int (fun _ _ => rfl)) (se_l1 l1_len (pe_callB call_len_seq rfl fc.b_len boot_len (pa_cons (sl_e (se_ix (sl_e (sv 0)) se_int (fun _ _ => rfl))) pa_nil))) (nomark _))))) (ss_cons (ss_set (i := 2) nd rfl (by first | exact Or.inl rfl | exact Or.inr rfl) (se_ix (sl_e (se_ix (sl_e (sv 0)) se_int (fun _ _ => rfl))) (se_ix (sl_e (sv 0)) se_int (fun _ _ => rfl)) (fun _ _ => rfl)) (.inl rfl))
    (ss_cons (ss_putR (ps_asg (se_op op_addA ops_add (se_ix (sl_e (sv 0)) se_int (fun _ _ => rfl)) se_int) (pg_sub (sv 0) se_int set_list)))
    (ss_cons (ss_putR (ps_asg (se_op op_mod ops_mod (se_intOf (pe_callTy call_int1 rfl fc.b_int boot_int (pa_cons (se_op op_addA ops_add (se_op op_addA ops_add (se_op op_mulA ops_mul (se_ix (sl_e (sv 0)) se_int (fun _ _ => rfl)) se_int) (sv 2)) se_int) pa_nil))) se_int) (pg_sub (sv 0) se_int set_list)))
    (ss_one (ss_if (st_cmp op_ge (opb_int iGe) (sv 2) (se_op op_pow ops_pow se_int se_int) (nomark _)) (ss_one (ss_putR (ps_asg (sv 2) (pg_sub (sv 0) se_int set_list)))) ss_nil))))) ss_nil)
    (ss_cons (ss_if (st_cmp op_gt (opb_int iGt) (se_ix (sl_e (sv 0)) se_int (fun _ _ => rfl)) se_int (nomark _)) (ss_cons (ss_set (i := 3) nd rfl (by first | exact Or.inl rfl | exact Or.inr rfl) (se_op op_mod ops_mod (se_intOf (pe_callTy call_int1 rfl fc.b_int boot_int (pa_cons (se_ix (sl_e (sv 0)) se_int (fun _ _ => rfl)) pa_nil))) (sv 1)) (.inl rfl))
    (ss_cons (ss_putR (ps_asg (se_op op_fdiv ops_div (se_ix (sl_e (sv 0)) se_int (fun _ _ => rfl)) (sv 1)) (pg_sub (sv 0) se_int set_list)))
    (ss_one (ss_ret (sv 3))))) ss_nil)
    (ss_cons (ss_putR (ps_asg (se_op op_addA ops_add (se_ix (sl_e (sv 0)) se_int (fun _ _ => rfl)) se_int) (pg_sub (sv 0) se_int set_list)))
    (ss_cons (ss_set (i := 4) nd rfl (by first | exact Or.inl rfl | exact Or.inr rfl) (se_op op_mod ops_mod (se_intOf (pe_callTy call_int1 rfl fc.b_int boot_int (pa_cons (se_op op_mulA ops_mul (se_intOf (pe_callTy call_int1 rfl fc.b_int boot_int (pa_cons (se_op op_addA ops_add (se_ix (sl_e (sv 0)) se_int (fun _ _ => rfl)) (se_op op_mulA ops_mul se_int (se_ix (sl_e (sv 0)) se_int (fun _ _ => rfl)))) pa_nil))) se_int) pa_nil))) se_int) (.inl rfl))
    (ss_cons (ss_set (i := 4) nd rfl (by first | exact Or.inl rfl | exact Or.inr rfl) (se_op op_mod ops_mod (se_intOf (pe_callTy call_int1 rfl fc.b_int boot_int (pa_cons (se_op op_mulA ops_mul (sv 4) (se_op op_addA ops_add (se_op op_fdiv ops_div (sv 4) se_int) se_int)) pa_nil))) se_int) (.inl rfl))
    (ss_cons (ss_set (i := 4) nd rfl (by first | exact Or.inl rfl | exact Or.inr rfl) (se_op op_mod ops_mod (se_intOf (pe_callTy call_int1 rfl fc.b_int boot_int (pa_cons (se_op op_mulA ops_mul (sv 4) (se_op op_addA ops_add (se_op op_fdiv ops_div (sv 4) se_int) se_int)) pa_nil))) se_int) (.inl rfl))
    (ss_one (ss_ret (se_op op_mod ops_mod (se_intOf (pe_callTy call_int1 rfl fc.b_int boot_int (pa_cons (se_op op_fdiv ops_div (sv 4) se_int) pa_nil))) (sv 1))))))))))
theorem sc__law_any : FnScope ["_law_hand_here", "_law_some"] (["_law_hand_here", "_law_some"] : List Str) (defScope (top 23)) := ⟨rfl, rfl, rfl, by decide +kernel, rfl, by decide +kernel, by decide +kernel⟩
theorem ok__law_any (fc : Fc K mg) (tx : Tx tl K mg base) : ∃ fd, FunD K "_law_any" "_law_any" (defArgs (top 23)) (defBody (top 23)) (defScope (top 23)) [] [] (He.fAd K ("_law_any", none)) fd ∧ FnOk P w K mg base (L2.CX P w) 2 (He.fAd K ("_law_any", none)) fd (["_law_hand_here", "_law_some"] : List Str) (spD (gk K mg) m__law_any) ∧ Binds K fd (["_law_hand_here", "_law_some"] : List Str) [] := by
  obtain ⟨fd__law_draw, F__law_draw, O__law_draw, B__law_draw⟩ := ok__law_draw (P := P) (w := w) (base := base) fc tx
  obtain ⟨fd, F⟩ := fc.f__law_any
  have nd : (["_law_hand_here", "_law_some"] : List Str).Nodup := sc__law_any.nd
  refine ⟨fd, F, fn_okX (k := 1) F sc__law_any rfl rfl (fun cdv A outer s H E M0 hr tk po => ?_), F.bindsN fun _ _ _ _ _ _ us hl => match us, hl with | [_, _], _ => rfl⟩
  exact (ss_one (ss_ret (se_ix (sl_e (sv 1)) (sx_call (O__law_draw.mono (by decide)) hr rfl fc.g__law_draw F__law_draw.kp B__law_draw tk (sa_cons (sv 0) (sa_cons (se_l1 l1_len (pe_callB call_len_seq rfl fc.b_len boot_len (pa_cons (sl_e (sv 1)) pa_nil))) sa_nil))) (fun _ _ => rfl))))
theorem sc__law_first : FnScope ["_law_pairs", "_law_word_here", "_law_is_right"] (["_law_pairs"] : List Str) (defScope (top 27)) := ⟨rfl, rfl, rfl, by decide +kernel, rfl, by decide +kernel, by decide +kernel⟩
theorem ok__law_first (fc : Fc K mg) (tx : Tx tl K mg base) : ∃ fd, FunD K "_law_first" "_law_first" (defArgs (top 27)) (defBody (top 27)) (defScope (top 27)) [] [] (He.fAd K ("_law_first", none)) fd ∧ FnOk P w K mg base (L2.CX P w) 1 (He.fAd K ("_law_first", none)) fd (["_law_pairs"] : List Str) (spD (gk K mg) m__law_first) ∧ Binds K fd (["_law_pairs"] : List Str) [] := by
  obtain ⟨fd, F⟩ := fc.f__law_first
  have nd : (["_law_pairs", "_law_word_here", "_law_is_right"] : List Str).Nodup := sc__law_first.nd
  refine ⟨fd, F, fn_okX (k := 0) F sc__law_first rfl rfl (fun cdv A outer s H E M0 hr tk po => ?_), F.bindsN fun _ _ _ _ _ _ us hl => match us, hl with | [_], _ => rfl⟩
  exact (ss_one (ss_ret (se_ix (sl_e (se_op op_addA ops_add (se_frz (sn_lcT (g_tup (gs_cons g_name (gs_cons g_name gs_nil))) (gs_in rfl) (pe_lc (own := [("_law_word_here", 1), ("_law_is_right", 2)]) rfl nd (si_seq (sv 0)) (blkOk_by (N := ["_law_pairs", "_law_word_here", "_law_is_right"]) (sc := defScope (top 27)) (by decide +kernel)) (fun _ _ _ _ _ => (pg_tup rfl (pgs_cons (pg_name (i := 1) nd rfl (by first | exact Or.inl rfl | exact Or.inr rfl)) (pgs_cons (pg_name (i := 2) nd rfl (by first | exact Or.inl rfl | exact Or.inr rfl)) pgs_nil)))) (fun _ _ _ _ _ => (pts_one (st_not (st_val (sv 2) (fun _ => rfl))))) (fun _ _ _ _ _ => (sv 1))))) (se_frz (sn_lst (sa_cons se_str sa_nil))))) se_int (fun _ _ => rfl))))
theorem sc__law_hand : FnScope ["_law_script", "_law_given", "_law_cell"] (["_law_script"] : List Str) (defScope (top 21)) := ⟨rfl, rfl, rfl, by decide +kernel, rfl, by decide +kernel, by decide +kernel⟩
theorem ok__law_hand (fc : Fc K mg) (tx : Tx tl K mg base) : ∃ fd, FunD K "_law_hand" "_law_hand" (defArgs (top 21)) (defBody (top 21)) (defScope (top 21)) [] [] (He.fAd K ("_law_hand", none)) fd ∧ FnOk P w K mg base (L2.CX P w) 1 (He.fAd K ("_law_hand", none)) fd (["_law_script"] : List Str) (spD (gk K mg) m__law_hand) ∧ Binds K fd (["_law_script"] : List Str) [] := by
  obtain ⟨fd, F⟩ := fc.f__law_hand
  have nd : (["_law_script", "_law_given", "_law_cell"] : List Str).Nodup := sc__law_hand.nd
  refine ⟨fd, F, fn_okX (k := 0) F sc__law_hand rfl rfl (fun cdv A outer s H E M0 hr tk po => ?_), F.bindsN fun _ _ _ _ _ _ us hl => match us, hl with | [_], _ => rfl⟩
  exact (ss_cons (ss_lcFT g_name (gs_in rfl) (ps_setLc (i := 1) (own := [("_law_cell", 2)]) rfl nd rfl rfl (sw_true rfl rfl rfl (by decide +kernel)) (si_seq (se_slice (sl_e (sv 0)) so_none (so_some se_int))) (blkOk_by (N := ["_law_script", "_law_given", "_law_cell"]) (sc := defScope (top 21)) (by decide +kernel)) (fun _ _ _ _ _ => (pg_name (i := 2) nd rfl (by first | exact Or.inl rfl | exact Or.inr rfl))) (fun _ _ _ _ _ => pts_y) (fun _ _ _ _ _ => (se_abs (pe_callB call_abs rfl fc.b_abs boot_abs (pa_cons (se_intOf (pe_callTy call_int1 rfl fc.b_int boot_int (pa_cons (sv 2) pa_nil))) pa_nil)))) ))
    (ss_one (ss_ret (se_new (sn_lst (sa_cons (sv 1) (sa_cons se_int (sa_cons se_int (sa_cons (se_op op_addA ops_add se_int (se_l1 l1_len (pe_callB call_len_seq rfl fc.b_len boot_len (pa_cons (sl_e (sv 1)) pa_nil)))) (sa_cons se_int sa_nil))))))))))
theorem sc__law_inserted : FnScope ["_law_row", "_law_key_here", "_law_at", "_law_one"] (["_law_row", "_law_key_here"] : List Str) (defScope (top 29)) := ⟨rfl, rfl, rfl, by decide +kernel, rfl, by decide +kernel, by decide +kernel⟩
theorem ok__law_inserted (fc : Fc K mg) (tx : Tx tl K mg base) : ∃ fd, FunD K "_law_inserted" "_law_inserted" (defArgs (top 29)) (defBody (top 29)) (defScope (top 29)) [] [] (He.fAd K ("_law_inserted", none)) fd ∧ FnOk P w K mg base (L2.CX P w) 1 (He.fAd K ("_law_inserted", none)) fd (["_law_row", "_law_key_here"] : List Str) (spD (gk K mg) m__law_inserted) ∧ Binds K fd (["_law_row", "_law_key_here"] : List Str) [] := by
  obtain ⟨fd, F⟩ := fc.f__law_inserted
  have nd : (["_law_row", "_law_key_here", "_law_at", "_law_one"] : List Str).Nodup := sc__law_inserted.nd
  refine ⟨fd, F, fn_okX (k := 0) F sc__law_inserted rfl rfl (fun cdv A outer s H E M0 hr tk po => ?_), F.bindsN fun _ _ _ _ _ _ us hl => match us, hl with | [_, _], _ => rfl⟩
  exact (ss_cons (ss_set (i := 2) nd rfl (by first | exact Or.inl rfl | exact Or.inr rfl) (se_l1 l1_len (pe_callB call_len_seq rfl fc.b_len boot_len (pa_cons (sl_e (se_frz (sn_lcT g_name (gs_in rfl) (pe_lc (own := [("_law_one", 3)]) rfl nd (si_seq (sv 0)) (blkOk_by (N := ["_law_row", "_law_key_here", "_law_at", "_law_one"]) (sc := defScope (top 29)) (by decide +kernel)) (fun _ _ _ _ _ => (pg_name (i := 3) nd rfl (by first | exact Or.inl rfl | exact Or.inr rfl))) (fun _ _ _ _ _ => (pts_one (st_cmp (op_ltD (hu64 hr)) opb_lt (sv 3) (sv 1) (nomark _)))) (fun _ _ _ _ _ => (sv 3)))))) pa_nil))) (.inl rfl))
    (ss_one (ss_ret (se_op op_addA ops_add (se_op op_addA ops_add (se_slice (sl_e (sv 0)) so_none (so_some (sv 2))) (se_frz (sn_lst (sa_cons (sv 1) sa_nil)))) (se_slice (sl_e (sv 0)) (so_some (sv 2)) so_none)))))
theorem sc__law_is_int : FnScope ["_law_thing", "_law_least", "_law_most"] (["_law_thing", "_law_least", "_law_most"] : List Str) (defScope (top 24)) := ⟨rfl, rfl, rfl, by decide +kernel, rfl, by decide +kernel, by decide +kernel⟩
theorem ok__law_is_int (fc : Fc K mg) (tx : Tx tl K mg base) : ∃ fd, FunD K "_law_is_int" "_law_is_int" (defArgs (top 24)) (defBody (top 24)) (defScope (top 24)) [] [] (He.fAd K ("_law_is_int", none)) fd ∧ FnOk P w K mg base (L2.CX P w) 1 (He.fAd K ("_law_is_int", none)) fd (["_law_thing", "_law_least", "_law_most"] : List Str) (spD (gk K mg) m__law_is_int) ∧ Binds K fd (["_law_thing", "_law_least", "_law_most"] : List Str) [] := by
  obtain ⟨fd, F⟩ := fc.f__law_is_int
  have nd : (["_law_thing", "_law_least", "_law_most"] : List Str).Nodup := sc__law_is_int.nd
  refine ⟨fd, F, fn_okX (k := 0) F sc__law_is_int rfl rfl (fun cdv A outer s H E M0 hr tk po => ?_), F.bindsN fun _ _ _ _ _ _ us hl => match us, hl with | [_, _, _], _ => rfl⟩
  exact (ss_one (ss_ret (se_and (se_isTyI (n := "int") (by decide) (insc_cons fc.g_Ideal fc.c_Ideal fc.ic_Ideal fc.ib_Ideal_int (fun _ h => by cases h)) (pe_callB call_isi rfl fc.b_isinstance boot_isinstance (pa_cons (sv 0) (pa_cons (pe_bltn (v := .ty "int") rfl fc.b_int boot_int rfl) pa_nil)))) (se_and (se_not (se_isTyI (n := "bool") (by decide) (insc_cons fc.g_Ideal fc.c_Ideal fc.ic_Ideal fc.ib_Ideal_bool (fun _ h => by cases h)) (pe_callB call_isi rfl fc.b_isinstance boot_isinstance (pa_cons (sv 0) (pa_cons (pe_bltn (v := .ty "bool") rfl fc.b_bool boot_bool rfl) pa_nil))))) (se_one (se_chain (opb_int iLe) (opb_int iLe) (pe_chain op_le op_le (sv 1) (sv 0) (sv 2))))))))
theorem sc__law_is_key : FnScope ["_law_thing"] (["_law_thing"] : List Str) (defScope (top 31)) := ⟨rfl, rfl, rfl, by decide +kernel, rfl, by decide +kernel, by decide +kernel⟩
theorem ok__law_is_key (fc : Fc K mg) (tx : Tx tl K mg base) : ∃ fd, FunD K "_law_is_key" "_law_is_key" (defArgs (top 31)) (defBody (top 31)) (defScope (top 31)) [] [] (He.fAd K ("_law_is_key", none)) fd ∧ FnOk P w K mg base (L2.CX P w) 2 (He.fAd K ("_law_is_key", none)) fd (["_law_thing"] : List Str) (spD (gk K mg) m__law_is_key) ∧ Binds K fd (["_law_thing"] : List Str) [] := by
  obtain ⟨fd__law_is_int, F__law_is_int, O__law_is_int, B__law_is_int⟩ := ok__law_is_int (P := P) (w := w) (base := base) fc tx
  obtain ⟨fd, F⟩ := fc.f__law_is_key
  have nd : (["_law_thing"] : List Str).Nodup := sc__law_is_key.nd
  refine ⟨fd, F, fn_okX (k := 1) F sc__law_is_key rfl rfl (fun cdv A outer s H E M0 hr tk po => ?_), F.bindsN fun _ _ _ _ _ _ us hl => match us, hl with | [_], _ => rfl⟩
  exact (ss_cons (ss_if (st_w (sw_or (st_not (st_val (se_isTyI (n := "tuple") (by decide) (insc_cons fc.g_Ideal fc.c_Ideal fc.ic_Ideal fc.ib_Ideal_tuple (fun _ h => by cases h)) (pe_callB call_isi rfl fc.b_isinstance boot_isinstance (pa_cons (sv 0) (pa_cons (pe_bltn (v := .ty "tuple") rfl fc.b_tuple boot_tuple rfl) pa_nil)))) (fun _ => rfl))) (sw_or (st_cmp (op_neD (hu64 hr)) opb_ne (se_l1 l1_len (pe_callB call_len_seq rfl fc.b_len boot_len (pa_cons (sl_e (sv 0)) pa_nil))) se_int (nomark _)) (sw_or1 (st_not (st_val (sx_call (O__law_is_int.mono (by decide)) hr rfl fc.g__law_is_int F__law_is_int.kp B__law_is_int tk (sa_cons (se_ix (sl_e (sv 0)) se_int (fun _ _ => rfl)) (sa_cons (se_neg (se_op op_pow ops_pow se_int se_int)) (sa_cons (se_op op_pow ops_pow se_int se_int) sa_nil)))) (fun _ => rfl))))))) (ss_one (ss_ret se_bl)) ss_nil)
    (ss_one (ss_ret (sx_call (O__law_is_int.mono (by decide)) hr rfl fc.g__law_is_int F__law_is_int.kp B__law_is_int tk (sa_cons (se_ix (sl_e (sv 0)) se_int (fun _ _ => rfl)) (sa_cons se_int (sa_cons (se_op op_pow ops_pow se_int se_int) sa_nil)))))))
theorem sc__law_deep : FnScope ["_law_hand_here", "_law_thing", "_law_turn"] (["_law_hand_here"] : List Str) (defScope (top 25)) := ⟨rfl, rfl, rfl, by decide +kernel, rfl, by decide +kernel, by decide +kernel⟩
theorem ok__law_deep (fc : Fc K mg) (tx : Tx tl K mg base) : ∃ fd, FunD K "_law_deep" "_law_deep" (defArgs (top 25)) (defBody (top 25)) (defScope (top 25)) [] [] (He.fAd K ("_law_deep", none)) fd ∧ FnOk P w K mg base (L2.CX P w) 3 (He.fAd K ("_law_deep", none)) fd (["_law_hand_here"] : List Str) (spD (gk K mg) m__law_deep) ∧ Binds K fd (["_law_hand_here"] : List Str) [] := by
  obtain ⟨fd__law_any, F__law_any, O__law_any, B__law_any⟩ := ok__law_any (P := P) (w := w) (base := base) fc tx
  obtain ⟨fd__law_draw, F__law_draw, O__law_draw, B__law_draw⟩ := ok__law_draw (P := P) (w := w) (base := base) fc tx
  obtain ⟨fd, F⟩ := fc.f__law_deep
  have nd : (["_law_hand_here", "_law_thing", "_law_turn"] : List Str).Nodup := sc__law_deep.nd
  refine ⟨fd, F, fn_okX (k := 2) F sc__law_deep rfl rfl (fun cdv A outer s H E M0 hr tk po => ?_), F.bindsN fun _ _ _ _ _ _ us hl => match us, hl with | [_], _ => rfl⟩
  exact (ss_cons (ss_set (i := 1) nd rfl (by first | exact Or.inl rfl | exact Or.inr rfl) (sx_call (O__law_any.mono (by decide)) hr rfl fc.g__law_any F__law_any.kp B__law_any tk (sa_cons (sv 0) (sa_cons (se_frz (sn_lst (sa_cons se_int (sa_cons (se_tup sa_nil) (sa_cons se_str sa_nil))))) sa_nil))) (.inl rfl))
    (ss_cons (ss_for (g := (gName 2)) (is := [2]) po rfl (si_range1 (pi_range1 rfl fc.b_range (pa_cons (se_op op_addA ops_add se_int (sx_call (O__law_draw.mono (by decide)) hr rfl fc.g__law_draw F__law_draw.kp B__law_draw tk (sa_cons (sv 0) (sa_cons se_int sa_nil)))) pa_nil))) (pg_name (i := 2) nd rfl (by first | exact Or.inl rfl | exact Or.inr rfl)) g_name (ss_one (ss_set (i := 1) nd rfl (by first | exact Or.inl rfl | exact Or.inr rfl) (se_if (st_cmp op_gt (opb_int iGt) (sx_call (O__law_draw.mono (by decide)) hr rfl fc.g__law_draw F__law_draw.kp B__law_draw tk (sa_cons (sv 0) (sa_cons se_int sa_nil))) se_int (nomark _)) (se_tup (sa_cons (sv 1) sa_nil)) (se_frz (sn_lst (sa_cons (sv 1) sa_nil)))) (.inl rfl))))
    (ss_one (ss_ret (sv 1)))))
theorem sc__law_odd : FnScope ["_law_hand_here", "_law_other", "_law_some"] (["_law_hand_here", "_law_other"] : List Str) (defScope (top 26)) := ⟨rfl, rfl, rfl, by decide +kernel, rfl, by decide +kernel, by decide +kernel⟩
theorem ok__law_odd (fc : Fc K mg) (tx : Tx tl K mg base) : ∃ fd, FunD K "_law_odd" "_law_odd" (defArgs (top 26)) (defBody (top 26)) (defScope (top 26)) [] [] (He.fAd K ("_law_odd", none)) fd ∧ FnOk P w K mg base (L2.CX P w) 4 (He.fAd K ("_law_odd", none)) fd (["_law_hand_here", "_law_other"] : List Str) (spD (gk K mg) m__law_odd) ∧ Binds K fd (["_law_hand_here", "_law_other"] : List Str) [] := by
  obtain ⟨fd__law_any, F__law_any, O__law_any, B__law_any⟩ := ok__law_any (P := P) (w := w) (base := base) fc tx
  obtain ⟨fd__law_deep, F__law_deep, O__law_deep, B__law_deep⟩ := ok__law_deep (P := P) (w := w) (base := base) fc tx
  obtain ⟨fd, F⟩ := fc.f__law_odd
  have nd : (["_law_hand_here", "_law_other", "_law_some"] : List Str).Nodup := sc__law_odd.nd
  refine ⟨fd, F, fn_okX (k := 3) F sc__law_odd rfl rfl (fun cdv A outer s H E M0 hr tk po => ?_), F.bindsN fun _ _ _ _ _ _ us hl => match us, hl with | [_, _], _ => rfl⟩
  exact (ss_cons (ss_set (i := 2) nd rfl (by first | exact Or.inl rfl | exact Or.inr rfl) (se_frz (sn_lst (sa_cons se_non (sa_cons se_bl (sa_cons se_bl (sa_cons (se_neg se_int) (sa_cons se_int (sa_cons se_int (sa_cons (se_op op_pow ops_pow se_int se_int) (sa_cons se_str (sa_cons se_str (sa_cons (se_tup sa_nil) (sa_cons (se_frz (sn_lst sa_nil)) (sa_cons se_dctK (sa_cons (se_tup (sa_cons se_int sa_nil)) (sa_cons (se_frz (sn_lst (sa_cons se_int sa_nil))) (sa_cons (se_tup (sa_cons se_bl sa_nil)) (sa_cons (se_tup (sa_cons se_str sa_nil)) (sa_cons (se_tup (sa_cons se_non (sa_cons se_int sa_nil))) sa_nil))))))))))))))))))) (.inl rfl))
    (ss_one (ss_ret (sx_call (O__law_any.mono (by decide)) hr rfl fc.g__law_any F__law_any.kp B__law_any tk (sa_cons (sv 0) (sa_cons (se_op op_addA ops_add (sv 2) (se_frz (sn_lst (sa_cons (se_disp (kv_cons se_int se_int kv_nil) rfl rfl (by simp) (by decide)) (sa_cons (sv 1) (sa_cons (sx_call (O__law_deep.mono (by decide)) hr rfl fc.g__law_deep F__law_deep.kp B__law_deep tk (sa_cons (sv 0) sa_nil)) sa_nil)))))) sa_nil))))))
theorem sc__law_key : FnScope ["_law_hand_here", "_law_many", "_law_rank"] (["_law_hand_here", "_law_many"] : List Str) (defScope (top 28)) := ⟨rfl, rfl, rfl, by decide +kernel, rfl, by decide +kernel, by decide +kernel⟩
theorem ok__law_key (fc : Fc K mg) (tx : Tx tl K mg base) : ∃ fd, FunD K "_law_key" "_law_key" (defArgs (top 28)) (defBody (top 28)) (defScope (top 28)) [] [] (He.fAd K ("_law_key", none)) fd ∧ FnOk P w K mg base (L2.CX P w) 3 (He.fAd K ("_law_key", none)) fd (["_law_hand_here", "_law_many"] : List Str) (spD (gk K mg) m__law_key) ∧ Binds K fd (["_law_hand_here", "_law_many"] : List Str) [] := by
  obtain ⟨fd__law_any, F__law_any, O__law_any, B__law_any⟩ := ok__law_any (P := P) (w := w) (base := base) fc tx
  obtain ⟨fd__law_draw, F__law_draw, O__law_draw, B__law_draw⟩ := ok__law_draw (P := P) (w := w) (base := base) fc tx
  obtain ⟨fd, F⟩ := fc.f__law_key
  have nd : (["_law_hand_here", "_law_many", "_law_rank"] : List Str).Nodup := sc__law_key.nd
  refine ⟨fd, F, fn_okX (k := 2) F sc__law_key rfl rfl (fun cdv A outer s H E M0 hr tk po => ?_), F.bindsN fun _ _ _ _ _ _ us hl => match us, hl with | [_, _], _ => rfl⟩
  exact (ss_cons (ss_set (i := 2) nd rfl (by first | exact Or.inl rfl | exact Or.inr rfl) (sx_call (O__law_any.mono (by decide)) hr rfl fc.g__law_any F__law_any.kp B__law_any tk (sa_cons (sv 0) (sa_cons (se_frz (sn_lst (sa_cons se_int (sa_cons se_int (sa_cons se_int (sa_cons se_int (sa_cons (se_neg se_int) (sa_cons (se_op op_pow ops_pow se_int se_int) (sa_cons (se_neg (se_op op_pow ops_pow se_int se_int)) (sa_cons (se_op op_sub ops_sub (sx_call (O__law_draw.mono (by decide)) hr rfl fc.g__law_draw F__law_draw.kp B__law_draw tk (sa_cons (sv 0) (sa_cons se_int sa_nil))) se_int) sa_nil)))))))))) sa_nil))) (.inl rfl))
    (ss_one (ss_ret (se_tup (sa_cons (sv 2) (sa_cons (sx_call (O__law_draw.mono (by decide)) hr rfl fc.g__law_draw F__law_draw.kp B__law_draw tk (sa_cons (sv 0) (sa_cons (sv 1) sa_nil))) sa_nil))))))
theorem sc__law_some_key : FnScope ["_law_hand_here", "_law_other", "_law_rank", "_law_cell", "_law_some"] (["_law_hand_here", "_law_other"] : List Str) (defScope (top 32)) := ⟨rfl, rfl, rfl, by decide +kernel, rfl, by decide +kernel, by decide +kernel⟩
theorem ok__law_some_key (fc : Fc K mg) (tx : Tx tl K mg base) : ∃ fd, FunD K "_law_some_key" "_law_some_key" (defArgs (top 32)) (defBody (top 32)) (defScope (top 32)) [] [] (He.fAd K ("_law_some_key", none)) fd ∧ FnOk P w K mg base (L2.CX P w) 5 (He.fAd K ("_law_some_key", none)) fd (["_law_hand_here", "_law_other"] : List Str) (spD (gk K mg) m__law_some_key) ∧ Binds K fd (["_law_hand_here", "_law_other"] : List Str) [] := by
  obtain ⟨fd__law_any, F__law_any, O__law_any, B__law_any⟩ := ok__law_any (P := P) (w := w) (base := base) fc tx
  obtain ⟨fd__law_key, F__law_key, O__law_key, B__law_key⟩ := ok__law_key (P := P) (w := w) (base := base) fc tx
  obtain ⟨fd__law_odd, F__law_odd, O__law_odd, B__law_odd⟩ := ok__law_odd (P := P) (w := w) (base := base) fc tx
  obtain ⟨fd, F⟩ := fc.f__law_some_key
  have nd : (["_law_hand_here", "_law_other", "_law_rank", "_law_cell", "_law_some"] : List Str).Nodup := sc__law_some_key.nd
  refine ⟨fd, F, fn_okX (k := 4) F sc__law_some_key rfl rfl (fun cdv A outer s H E M0 hr tk po => ?_), F.bindsN fun _ _ _ _ _ _ us hl => match us, hl with | [_, _], _ => rfl⟩
  exact (ss_cons (ss_asg (g := (gTup _ 2 (gCons (gName 2) (gCons (gName 3) gNil)))) (is := ([2] ++ ([3] ++ []))) (sx_call (O__law_key.mono (by decide)) hr rfl fc.g__law_key F__law_key.kp B__law_key tk (sa_cons (sv 0) (sa_cons se_int sa_nil))) (pg_tup rfl (pgs_cons (pg_name (i := 2) nd rfl (by first | exact Or.inl rfl | exact Or.inr rfl)) (pgs_cons (pg_name (i := 3) nd rfl (by first | exact Or.inl rfl | exact Or.inr rfl)) pgs_nil))) (g_tup (gs_cons g_name (gs_cons g_name gs_nil))))
    (ss_cons (ss_set (i := 4) nd rfl (by first | exact Or.inl rfl | exact Or.inr rfl) (se_frz (sn_lst (sa_cons (se_tup (sa_cons (se_op op_addA ops_add (se_op op_pow ops_pow se_int se_int) se_int) (sa_cons (sv 3) sa_nil))) (sa_cons (se_tup (sa_cons (se_op op_sub ops_sub (se_neg (se_op op_pow ops_pow se_int se_int)) se_int) (sa_cons (sv 3) sa_nil))) (sa_cons (se_tup (sa_cons (sv 2) (sa_cons (se_neg se_int) sa_nil))) (sa_cons (se_tup (sa_cons se_bl (sa_cons (sv 3) sa_nil))) (sa_cons (se_tup (sa_cons (sv 2) (sa_cons se_bl sa_nil))) (sa_cons (se_tup (sa_cons (sv 2) sa_nil)) (sa_cons (se_tup (sa_cons (sv 2) (sa_cons (sv 3) (sa_cons se_int sa_nil)))) sa_nil))))))))) (.inl rfl))
    (ss_cons (ss_set (i := 4) nd rfl (by first | exact Or.inl rfl | exact Or.inr rfl) (se_op op_addA ops_add (sv 4) (se_frz (sn_lst (sa_cons (se_frz (sn_lst (sa_cons (sv 2) (sa_cons (sv 3) sa_nil)))) (sa_cons (se_tup (sa_cons se_str (sa_cons (sv 3) sa_nil))) (sa_cons (se_tup (sa_cons (sv 2) (sa_cons se_non sa_nil))) (sa_cons (se_tup (sa_cons se_non (sa_cons (sv 3) sa_nil))) (sa_cons (sv 2) (sa_cons (sx_call (O__law_odd.mono (by decide)) hr rfl fc.g__law_odd F__law_odd.kp B__law_odd tk (sa_cons (sv 0) (sa_cons (sv 1) sa_nil))) sa_nil))))))))) (.inl rfl))
    (ss_one (ss_ret (sx_call (O__law_any.mono (by decide)) hr rfl fc.g__law_any F__law_any.kp B__law_any tk (sa_cons (sv 0) (sa_cons (se_op op_addA ops_add (se_frz (sn_lst (sa_cons (se_tup (sa_cons (sv 2) (sa_cons (sv 3) sa_nil))) (sa_cons (se_tup (sa_cons (sv 2) (sa_cons (sv 3) sa_nil))) (sa_cons (se_tup (sa_cons (sv 2) (sa_cons (se_op op_pow ops_pow se_int se_int) sa_nil))) sa_nil))))) (sv 4)) sa_nil))))))))
theorem sc__law_word : FnScope ["_law_call", "_law_word_here", "e", "_law_flags"] (["_law_call"] : List Str) (defScope (top 30)) := ⟨rfl, rfl, rfl, by decide +kernel, rfl, by decide +kernel, by decide +kernel⟩
theorem fb__law_word (fc : Fc K mg) : ∃ fd, FunD K "_law_word" "_law_word" (defArgs (top 30)) (defBody (top 30)) (defScope (top 30)) [] [] (He.fAd K ("_law_word", none)) fd ∧ Binds K fd (["_law_call"] : List Str) [] := by
  obtain ⟨fd, F⟩ := fc.f__law_word
  exact ⟨fd, F, F.bindsN fun _ _ _ _ _ _ us hl => match us, hl with | [_], _ => rfl⟩
theorem gv__law_word {X : Cx} {gA : Addr} {cdg : Value} {qq : Str} (fc : Fc X.K X.mg) : GivesW X ["_law_call", "_law_word_here", "e", "_law_flags"] "_law_word" (defScope (top 30)) gA cdg (defBody (top 30)) "_law_call" qq (TTD X.K X.mg (hoD 4 b__law_word)) := ho_gives rfl (by decide) fun fA s H M act hr hact => by
  have nd : (["_law_call", "_law_word_here", "e", "_law_flags"] : List Str).Nodup := sc__law_word.nd
  letI : Tb := ⟨Tb.T, some (fA, M, H)⟩
  have tk := @takes_none5 (cxOf C8.CX0 X.prog X.w X.K X.mg X.base ["_law_call", "_law_word_here", "e", "_law_flags"] "_law_word" (defScope (top 30)) gA cdg X.A X.stack s H C8.E0).nox
  have po := PassesOwn.never (M := model X.prog X.w) (A := (cxOf C8.CX0 X.prog X.w X.K X.mg X.base ["_law_call", "_law_word_here", "e", "_law_flags"] "_law_word" (defScope (top 30)) gA cdg X.A X.stack s H C8.E0).A) (env := (cxOf C8.CX0 X.prog X.w X.K X.mg X.base ["_law_call", "_law_word_here", "e", "_law_flags"] "_law_word" (defScope (top 30)) gA cdg X.A X.stack s H C8.E0).env)
  exact (ss_cons (ss_set (i := 1) nd rfl (by first | exact Or.inl rfl | exact Or.inr rfl) se_str (.inl rfl))
    (ss_cons (ss_try rfl rfl nd tk (fun _ _ _ tk1 po1 => (ss_one (ss_drop (hact _ _ _ _ _ tk1)))) (.named (i := 2) rfl rfl ⟨rfl, by decide, .inl fc.g_FabricError⟩ (ex_cons fc.g_KeyThere fc.e_KeyThere_FabricError (ex_cons fc.g_NoKey fc.e_NoKey_FabricError (ex_cons fc.g_NoLines fc.e_NoLines_FabricError (ex_cons fc.g_NoOutput fc.e_NoOutput_FabricError (ex_cons fc.g_NothingThere fc.e_NothingThere_FabricError ex_nil))))) ex_nil (fun _ _ _ => (ss_cons (ss_set (i := 3) nd rfl (by first | exact Or.inl rfl | exact Or.inr rfl) (se_new (sn_lst (sa_cons (se_isExc (c := .ref (He.ga X.K "NoLines")) (cv := .ref (He.ga X.K "NoLines")) (fun _ h => h) (ex_or (ex_cons fc.g_NoLines fc.xc_NoLines ex_nil) (ex_cons fc.g_KeyThere fc.xc_KeyThere (ex_cons fc.g_NoKey fc.xc_NoKey (ex_cons fc.g_NoOutput fc.xc_NoOutput (ex_cons fc.g_NothingThere fc.xc_NothingThere ex_nil))))) (ex_cons fc.g_NoLines fc.i_NoLines_NoLines ex_nil) (ex_cons fc.g_KeyThere fc.i_KeyThere_NoLines (ex_cons fc.g_NoKey fc.i_NoKey_NoLines (ex_cons fc.g_NoOutput fc.i_NoOutput_NoLines (ex_cons fc.g_NothingThere fc.i_NothingThere_NoLines ex_nil)))) (pe_callB call_isP rfl fc.b_isinstance boot_isinstance (pa_cons (pv 2) (pa_cons (pe_glob (v := .ref (He.ga _ "NoLines")) rfl fc.g_NoLines rfl) pa_nil)))) (sa_cons (se_isExc (c := .ref (He.ga X.K "NoOutput")) (cv := .ref (He.ga X.K "NoOutput")) (fun _ h => h) (ex_or (ex_cons fc.g_NoOutput fc.xc_NoOutput ex_nil) (ex_cons fc.g_KeyThere fc.xc_KeyThere (ex_cons fc.g_NoKey fc.xc_NoKey (ex_cons fc.g_NoLines fc.xc_NoLines (ex_cons fc.g_NothingThere fc.xc_NothingThere ex_nil))))) (ex_cons fc.g_NoOutput fc.i_NoOutput_NoOutput ex_nil) (ex_cons fc.g_KeyThere fc.i_KeyThere_NoOutput (ex_cons fc.g_NoKey fc.i_NoKey_NoOutput (ex_cons fc.g_NoLines fc.i_NoLines_NoOutput (ex_cons fc.g_NothingThere fc.i_NothingThere_NoOutput ex_nil)))) (pe_callB call_isP rfl fc.b_isinstance boot_isinstance (pa_cons (pv 2) (pa_cons (pe_glob (v := .ref (He.ga _ "NoOutput")) rfl fc.g_NoOutput rfl) pa_nil)))) (sa_cons (se_isExc (c := .ref (He.ga X.K "NoKey")) (cv := .ref (He.ga X.K "NoKey")) (fun _ h => h) (ex_or (ex_cons fc.g_NoKey fc.xc_NoKey ex_nil) (ex_cons fc.g_KeyThere fc.xc_KeyThere (ex_cons fc.g_NoLines fc.xc_NoLines (ex_cons fc.g_NoOutput fc.xc_NoOutput (ex_cons fc.g_NothingThere fc.xc_NothingThere ex_nil))))) (ex_cons fc.g_NoKey fc.i_NoKey_NoKey ex_nil) (ex_cons fc.g_KeyThere fc.i_KeyThere_NoKey (ex_cons fc.g_NoLines fc.i_NoLines_NoKey (ex_cons fc.g_NoOutput fc.i_NoOutput_NoKey (ex_cons fc.g_NothingThere fc.i_NothingThere_NoKey ex_nil)))) (pe_callB call_isP rfl fc.b_isinstance boot_isinstance (pa_cons (pv 2) (pa_cons (pe_glob (v := .ref (He.ga _ "NoKey")) rfl fc.g_NoKey rfl) pa_nil)))) (sa_cons (se_isExc (c := .ref (He.ga X.K "KeyThere")) (cv := .ref (He.ga X.K "KeyThere")) (fun _ h => h) (ex_or (ex_cons fc.g_KeyThere fc.xc_KeyThere ex_nil) (ex_cons fc.g_NoKey fc.xc_NoKey (ex_cons fc.g_NoLines fc.xc_NoLines (ex_cons fc.g_NoOutput fc.xc_NoOutput (ex_cons fc.g_NothingThere fc.xc_NothingThere ex_nil))))) (ex_cons fc.g_KeyThere fc.i_KeyThere_KeyThere ex_nil) (ex_cons fc.g_NoKey fc.i_NoKey_KeyThere (ex_cons fc.g_NoLines fc.i_NoLines_KeyThere (ex_cons fc.g_NoOutput fc.i_NoOutput_KeyThere (ex_cons fc.g_NothingThere fc.i_NothingThere_KeyThere ex_nil)))) (pe_callB call_isP rfl fc.b_isinstance boot_isinstance (pa_cons (pv 2) (pa_cons (pe_glob (v := .ref (He.ga _ "KeyThere")) rfl fc.g_KeyThere rfl) pa_nil)))) sa_nil)))))) (.inl rfl))
    (ss_cons (ss_drop (se_appR (pe_bm PySem.F.plainAttrs_list PySem.F.slot_list_append PySem.F.type_list_append mt_append (sv 3) (pa_cons (se_isExc (c := .ref (He.ga X.K "NothingThere")) (cv := .ref (He.ga X.K "NothingThere")) (fun _ h => h) (ex_or (ex_cons fc.g_NothingThere fc.xc_NothingThere ex_nil) (ex_cons fc.g_KeyThere fc.xc_KeyThere (ex_cons fc.g_NoKey fc.xc_NoKey (ex_cons fc.g_NoLines fc.xc_NoLines (ex_cons fc.g_NoOutput fc.xc_NoOutput ex_nil))))) (ex_cons fc.g_NothingThere fc.i_NothingThere_NothingThere ex_nil) (ex_cons fc.g_KeyThere fc.i_KeyThere_NothingThere (ex_cons fc.g_NoKey fc.i_NoKey_NothingThere (ex_cons fc.g_NoLines fc.i_NoLines_NothingThere (ex_cons fc.g_NoOutput fc.i_NoOutput_NothingThere ex_nil)))) (pe_callB call_isP rfl fc.b_isinstance boot_isinstance (pa_cons (pv 2) (pa_cons (pe_glob (v := .ref (He.ga _ "NothingThere")) rfl fc.g_NothingThere rfl) pa_nil)))) pa_nil))))
    (ss_cons (ss_set (i := 1) nd rfl (by first | exact Or.inl rfl | exact Or.inr rfl) se_str (.inl rfl))
    (ss_one (ss_if (st_w (sw_and (st_cmp (op_eqD (by have h := hu64 hr; exact h)) opb_eq (se_count (pe_bm PySem.F.plainAttrs_list PySem.F.slot_list_count PySem.F.type_list_count (mt_countD (by have h := hu65 hr; exact h)) (sl_e (sv 3)) (pa_cons se_bl pa_nil))) se_int (nomark _)) (sw_and1 (st_val (se_isExc (c := .ty "ValueError") (cv := .type "ValueError") (fun _ h => h) (ex_or (ex_cons fc.g_KeyThere fc.xc_KeyThere (ex_cons fc.g_NoKey fc.xc_NoKey (ex_cons fc.g_NoLines fc.xc_NoLines (ex_cons fc.g_NoOutput fc.xc_NoOutput (ex_cons fc.g_NothingThere fc.xc_NothingThere ex_nil))))) ex_nil) (ex_cons fc.g_KeyThere fc.i_KeyThere_ValueError (ex_cons fc.g_NoKey fc.i_NoKey_ValueError (ex_cons fc.g_NoLines fc.i_NoLines_ValueError (ex_cons fc.g_NoOutput fc.i_NoOutput_ValueError (ex_cons fc.g_NothingThere fc.i_NothingThere_ValueError ex_nil))))) ex_nil (pe_callB call_isP rfl fc.b_isinstance boot_isinstance (pa_cons (pv 2) (pa_cons (pe_bltn (v := .ty "ValueError") rfl fc.b_ValueError (by decide +kernel : bootBuiltins "ValueError" = some (.type "ValueError")) rfl) pa_nil)))) (fun _ => rfl))))) (ss_one (ss_set (i := 1) nd rfl (by first | exact Or.inl rfl | exact Or.inr rfl) (se_ix (sl_e (se_frz (sn_lst (sa_cons se_str (sa_cons se_str (sa_cons se_str (sa_cons se_str (sa_cons se_str sa_nil)))))))) (se_index (pe_bm PySem.F.plainAttrs_list PySem.F.slot_list_index PySem.F.type_list_index (mt_indexD (by have h := hu65 hr; exact h)) (sl_e (sv 3)) (pa_cons se_bl pa_nil))) (fun _ _ => rfl)) (.inl rfl))) ss_nil)))))) .nil))
    (ss_one (ss_ret (sv 1)))))
theorem sc_law : FnScope ["_law_script", "_law_hand_here", "_law_many", "_law_outputs", "_law_ideal", "_law_rows", "_law_output", "_law_turn", "_law_key_here", "_law_is_out", "_law_is_key_here", "_law_pairs", "_law_is_new", "_law_rank", "_law_cell", "_law_due", "_law_one", "_law_row"] (["_law_script"] : List Str) (defScope (top 33)) := ⟨rfl, rfl, rfl, by decide +kernel, rfl, by decide +kernel, by decide +kernel⟩
theorem ok_law (fc : Fc K mg) (tx : Tx tl K mg base) : ∃ fd, FunD K "law" "law" (defArgs (top 33)) (defBody (top 33)) (defScope (top 33)) [] [] (He.fAd K ("law", none)) fd ∧ FnOk P w K mg base (L2.CX P w) 8 (He.fAd K ("law", none)) fd (["_law_script"] : List Str) (spD (gk K mg) m_law) ∧ Binds K fd (["_law_script"] : List Str) [] := by
  obtain ⟨fd_Ideal_init, F_Ideal_init, O_Ideal_init, B_Ideal_init⟩ := ok_Ideal_init (P := P) (w := w) (base := base) fc tx
  obtain ⟨fd_Ideal_init, F_Ideal_init, O_Ideal_init, B_Ideal_init⟩ := ok_Ideal_init (P := P) (w := w) (base := base) fc tx
  obtain ⟨fd_Ideal_ahead, F_Ideal_ahead, O_Ideal_ahead, B_Ideal_ahead⟩ := ok_Ideal_ahead (P := P) (w := w) (base := base) fc tx
  obtain ⟨fd_Ideal_due, F_Ideal_due, O_Ideal_due, B_Ideal_due⟩ := ok_Ideal_due (P := P) (w := w) (base := base) fc tx
  obtain ⟨fd_Ideal_held, F_Ideal_held, O_Ideal_held, B_Ideal_held⟩ := ok_Ideal_held (P := P) (w := w) (base := base) fc tx
  obtain ⟨fd_Ideal_held, F_Ideal_held, O_Ideal_held, B_Ideal_held⟩ := ok_Ideal_held (P := P) (w := w) (base := base) fc tx
  obtain ⟨fd_Ideal_let_go, F_Ideal_let_go, O_Ideal_let_go, B_Ideal_let_go⟩ := ok_Ideal_let_go (P := P) (w := w) (base := base) fc tx
  obtain ⟨fd_Ideal_push, F_Ideal_push, O_Ideal_push, B_Ideal_push⟩ := ok_Ideal_push (P := P) (w := w) (base := base) fc tx
  obtain ⟨fd__law_any, F__law_any, O__law_any, B__law_any⟩ := ok__law_any (P := P) (w := w) (base := base) fc tx
  obtain ⟨fd__law_draw, F__law_draw, O__law_draw, B__law_draw⟩ := ok__law_draw (P := P) (w := w) (base := base) fc tx
  obtain ⟨fd__law_first, F__law_first, O__law_first, B__law_first⟩ := ok__law_first (P := P) (w := w) (base := base) fc tx
  obtain ⟨fd__law_hand, F__law_hand, O__law_hand, B__law_hand⟩ := ok__law_hand (P := P) (w := w) (base := base) fc tx
  obtain ⟨fd__law_inserted, F__law_inserted, O__law_inserted, B__law_inserted⟩ := ok__law_inserted (P := P) (w := w) (base := base) fc tx
  obtain ⟨fd__law_is_int, F__law_is_int, O__law_is_int, B__law_is_int⟩ := ok__law_is_int (P := P) (w := w) (base := base) fc tx
  obtain ⟨fd__law_is_key, F__law_is_key, O__law_is_key, B__law_is_key⟩ := ok__law_is_key (P := P) (w := w) (base := base) fc tx
  obtain ⟨fd__law_odd, F__law_odd, O__law_odd, B__law_odd⟩ := ok__law_odd (P := P) (w := w) (base := base) fc tx
  obtain ⟨fd__law_some_key, F__law_some_key, O__law_some_key, B__law_some_key⟩ := ok__law_some_key (P := P) (w := w) (base := base) fc tx
  obtain ⟨fd__law_word, F__law_word, B__law_word⟩ := fb__law_word fc
  obtain ⟨fd, F⟩ := fc.f_law
  have nd : (["_law_script", "_law_hand_here", "_law_many", "_law_outputs", "_law_ideal", "_law_rows", "_law_output", "_law_turn", "_law_key_here", "_law_is_out", "_law_is_key_here", "_law_pairs", "_law_is_new", "_law_rank", "_law_cell", "_law_due", "_law_one", "_law_row"] : List Str).Nodup := sc_law.nd
  refine ⟨fd, F, fn_okL (k := 7) F sc_law rfl rfl (fun A outer s H E M0 hr tk po => ?_), F.bindsN fun _ _ _ _ _ _ us hl => match us, hl with | [_], _ => rfl⟩
  exact (ss_cons (ss_set (i := 1) nd rfl (by first | exact Or.inl rfl | exact Or.inr rfl) (sx_call (O__law_hand.mono (by decide)) hr rfl fc.g__law_hand F__law_hand.kp B__law_hand tk (sa_cons (sv 0) sa_nil)) (.inl rfl))
    (ss_cons (ss_set (i := 2) nd rfl (by first | exact Or.inl rfl | exact Or.inr rfl) (sx_call (O__law_any.mono (by decide)) hr rfl fc.g__law_any F__law_any.kp B__law_any tk (sa_cons (sv 1) (sa_cons (se_frz (sn_lst (sa_cons se_int (sa_cons se_int (sa_cons se_int (sa_cons se_int (sa_cons se_int (sa_cons (sx_call (O__law_odd.mono (by decide)) hr rfl fc.g__law_odd F__law_odd.kp B__law_odd tk (sa_cons (sv 1) (sa_cons se_non sa_nil))) sa_nil)))))))) sa_nil))) (.inl rfl))
    (ss_cons (ss_if (st_cmp (op_neD (hu64 hr)) opb_ne (se_lam (k := 5) (at_ := (("law", none) : He.Defn)) F__law_word rfl fc.g__law_word B__law_word sc__law_word rfl (by first | exact Or.inl rfl | exact Or.inr (Or.inl rfl) | exact Or.inr (Or.inr rfl)) (fun _ => gv__law_word fc) tx.T tx.nd (List.mem_of_getElem? (i := 0) rfl) (tx.tb _ (List.mem_of_getElem? (i := 0) rfl)) rfl (hr.mono (by decide)) (lamS_by (sc := defScope (top 33)) (by decide +kernel)) rfl (fun _ _ _ _ _ => rfl) (fun _ _ _ _ _ _ _ hr tk => (sx_make fc.g_Ideal fc.k_Ideal O_Ideal_init (hr.mono (by decide)) rfl B_Ideal_init tk (sa_cons (sv 2) sa_nil)))) (se_if (st_val (sx_call (O__law_is_int.mono (by decide)) hr rfl fc.g__law_is_int F__law_is_int.kp B__law_is_int tk (sa_cons (sv 2) (sa_cons se_int (sa_cons se_int sa_nil)))) (fun _ => rfl)) se_str se_str) (nomark _)) (ss_one (ss_ret se_bl)) ss_nil)
    (ss_cons (ss_set (i := 3) nd rfl (by first | exact Or.inl rfl | exact Or.inr rfl) (sx_call (O__law_any.mono (by decide)) hr rfl fc.g__law_any F__law_any.kp B__law_any tk (sa_cons (sv 1) (sa_cons (se_frz (sn_lst (sa_cons se_int (sa_cons se_int (sa_cons se_int sa_nil))))) sa_nil))) (.inl rfl))
    (ss_cons (ss_asg (g := (gTup _ 2 (gCons (gName 4) (gCons (gName 5) gNil)))) (is := ([4] ++ ([5] ++ []))) (se_tup (sa_cons (sx_make fc.g_Ideal fc.k_Ideal O_Ideal_init (hr.mono (by decide)) rfl B_Ideal_init tk (sa_cons (sv 3) sa_nil)) (sa_cons (se_new (sn_lcT g_name (gs_in rfl) (pe_lc (own := [("_law_output", 6)]) rfl nd (si_range1 (pi_range1 rfl fc.b_range (pa_cons (sv 3) pa_nil))) (blkOk_by (N := ["_law_script", "_law_hand_here", "_law_many", "_law_outputs", "_law_ideal", "_law_rows", "_law_output", "_law_turn", "_law_key_here", "_law_is_out", "_law_is_key_here", "_law_pairs", "_law_is_new", "_law_rank", "_law_cell", "_law_due", "_law_one", "_law_row"]) (sc := defScope (top 33)) (by decide +kernel)) (fun _ _ _ _ _ => (pg_name (i := 6) nd rfl (by first | exact Or.inl rfl | exact Or.inr rfl))) (fun _ _ _ _ _ => pts_y) (fun _ _ _ _ _ => (se_frz (sn_lst sa_nil)))))) sa_nil))) (pg_tup rfl (pgs_cons (pg_name (i := 4) nd rfl (by first | exact Or.inl rfl | exact Or.inr rfl)) (pgs_cons (pg_name (i := 5) nd rfl (by first | exact Or.inl rfl | exact Or.inr rfl)) pgs_nil))) (g_tup (gs_cons g_name (gs_cons g_name gs_nil))))
    (ss_cons (ss_for (g := (gName 7)) (is := [7]) po rfl (si_range1 (pi_range1 rfl fc.b_range (pa_cons se_int pa_nil))) (pg_name (i := 7) nd rfl (by first | exact Or.inl rfl | exact Or.inr rfl)) g_name (ss_cons (ss_asg (g := (gTup _ 2 (gCons (gName 6) (gCons (gName 8) gNil)))) (is := ([6] ++ ([8] ++ []))) (se_tup (sa_cons (sx_call (O__law_any.mono (by decide)) hr rfl fc.g__law_any F__law_any.kp B__law_any tk (sa_cons (sv 1) (sa_cons (se_frz (sn_lst (sa_cons se_int (sa_cons (se_op op_sub ops_sub (sv 3) se_int) (sa_cons (sv 3) (sa_cons (se_neg se_int) (sa_cons (sx_call (O__law_odd.mono (by decide)) hr rfl fc.g__law_odd F__law_odd.kp B__law_odd tk (sa_cons (sv 1) (sa_cons (sv 4) sa_nil))) sa_nil))))))) sa_nil))) (sa_cons (sx_call (O__law_some_key.mono (by decide)) hr rfl fc.g__law_some_key F__law_some_key.kp B__law_some_key tk (sa_cons (sv 1) (sa_cons (sv 4) sa_nil))) sa_nil))) (pg_tup rfl (pgs_cons (pg_name (i := 6) nd rfl (by first | exact Or.inl rfl | exact Or.inr rfl)) (pgs_cons (pg_name (i := 8) nd rfl (by first | exact Or.inl rfl | exact Or.inr rfl)) pgs_nil))) (g_tup (gs_cons g_name (gs_cons g_name gs_nil))))
    (ss_cons (ss_par (ps_par (i := 9) (j := 10) rfl nd rfl rfl (by decide) rfl rfl (pa_cons (sx_call (O__law_is_int.mono (by decide)) hr rfl fc.g__law_is_int F__law_is_int.kp B__law_is_int tk (sa_cons (sv 6) (sa_cons se_int (sa_cons (se_op op_sub ops_sub (sv 3) se_int) sa_nil)))) (pa_cons (sx_call (O__law_is_key.mono (by decide)) hr rfl fc.g__law_is_key F__law_is_key.kp B__law_is_key tk (sa_cons (sv 8) sa_nil)) pa_nil)) rfl) (by decide))
    (ss_cons (ss_set (i := 11) nd rfl (by first | exact Or.inl rfl | exact Or.inr rfl) (se_frz (sn_lst (sa_cons (se_tup (sa_cons se_str (sa_cons (sv 9) sa_nil))) (sa_cons (se_tup (sa_cons se_str (sa_cons (sv 10) sa_nil))) sa_nil)))) (.inl rfl))
    (ss_cons (ss_if (st_cmp (op_neD (hu64 hr)) opb_ne (se_lam (k := 5) (at_ := (("law", none) : He.Defn)) F__law_word rfl fc.g__law_word B__law_word sc__law_word rfl (by first | exact Or.inl rfl | exact Or.inr (Or.inl rfl) | exact Or.inr (Or.inr rfl)) (fun _ => gv__law_word fc) tx.T tx.nd (List.mem_of_getElem? (i := 0) rfl) (tx.tb _ (List.mem_of_getElem? (i := 0) rfl)) rfl (hr.mono (by decide)) (lamS_by (sc := defScope (top 33)) (by decide +kernel)) rfl (fun _ _ _ _ _ => rfl) (fun _ _ _ _ _ _ _ hr tk => (sx_meth fc.g_Ideal (sv 4) fc.c_Ideal fc.m_Ideal_due (O_Ideal_due.mono (by decide)) hr B_Ideal_due tk (sa_cons (sv 6) sa_nil)))) (sx_call (O__law_first.mono (by decide)) hr rfl fc.g__law_first F__law_first.kp B__law_first tk (sa_cons (se_slice (sl_e (sv 11)) so_none (so_some se_int)) sa_nil)) (nomark _)) (ss_one (ss_ret se_bl)) ss_nil)
    (ss_cons (ss_if (st_cmp (op_neD (hu64 hr)) opb_ne (se_lam (k := 5) (at_ := (("law", none) : He.Defn)) F__law_word rfl fc.g__law_word B__law_word sc__law_word rfl (by first | exact Or.inl rfl | exact Or.inr (Or.inl rfl) | exact Or.inr (Or.inr rfl)) (fun _ => gv__law_word fc) tx.T tx.nd (List.mem_of_getElem? (i := 0) rfl) (tx.tb _ (List.mem_of_getElem? (i := 0) rfl)) rfl (hr.mono (by decide)) (lamS_by (sc := defScope (top 33)) (by decide +kernel)) rfl (fun _ _ _ _ _ => rfl) (fun _ _ _ _ _ _ _ hr tk => (sx_meth fc.g_Ideal (sv 4) fc.c_Ideal fc.m_Ideal_held (O_Ideal_held.mono (by decide)) hr B_Ideal_held tk (sa_cons (sv 6) sa_nil)))) (sx_call (O__law_first.mono (by decide)) hr rfl fc.g__law_first F__law_first.kp B__law_first tk (sa_cons (se_slice (sl_e (sv 11)) so_none (so_some se_int)) sa_nil)) (nomark _)) (ss_one (ss_ret se_bl)) ss_nil)
    (ss_cons (ss_if (st_cmp (op_neD (hu64 hr)) opb_ne (se_lam (k := 5) (at_ := (("law", none) : He.Defn)) F__law_word rfl fc.g__law_word B__law_word sc__law_word rfl (by first | exact Or.inl rfl | exact Or.inr (Or.inl rfl) | exact Or.inr (Or.inr rfl)) (fun _ => gv__law_word fc) tx.T tx.nd (List.mem_of_getElem? (i := 0) rfl) (tx.tb _ (List.mem_of_getElem? (i := 0) rfl)) rfl (hr.mono (by decide)) (lamS_by (sc := defScope (top 33)) (by decide +kernel)) rfl (fun _ _ _ _ _ => rfl) (fun _ _ _ _ _ _ _ hr tk => (sx_meth fc.g_Ideal (sv 4) fc.c_Ideal fc.m_Ideal_ahead (O_Ideal_ahead.mono (by decide)) hr B_Ideal_ahead tk (sa_cons (sv 6) (sa_cons (sv 8) sa_nil))))) (sx_call (O__law_first.mono (by decide)) hr rfl fc.g__law_first F__law_first.kp B__law_first tk (sa_cons (sv 11) sa_nil)) (nomark _)) (ss_one (ss_ret se_bl)) ss_nil)
    (ss_cons (ss_set (i := 12) nd rfl (by first | exact Or.inl rfl | exact Or.inr rfl) (se_or (se_not (sv 9)) (se_or (se_not (sv 10)) (se_one (se_in (op_notInA (hu65 hr)) (se_ix (sl_e (sv 8)) se_int (fun _ _ => rfl)) (sl_e (se_frz (sn_lcT (g_tup (gs_cons g_name (gs_cons g_name gs_nil))) (gs_in rfl) (pe_lc (own := [("_law_rank", 13), ("_law_cell", 14)]) rfl nd (si_seq (se_ix (sl_e (sv 5)) (sv 6) (fun _ _ => rfl))) (blkOk_by (N := ["_law_script", "_law_hand_here", "_law_many", "_law_outputs", "_law_ideal", "_law_rows", "_law_output", "_law_turn", "_law_key_here", "_law_is_out", "_law_is_key_here", "_law_pairs", "_law_is_new", "_law_rank", "_law_cell", "_law_due", "_law_one", "_law_row"]) (sc := defScope (top 33)) (by decide +kernel)) (fun _ _ _ _ _ => (pg_tup rfl (pgs_cons (pg_name (i := 13) nd rfl (by first | exact Or.inl rfl | exact Or.inr rfl)) (pgs_cons (pg_name (i := 14) nd rfl (by first | exact Or.inl rfl | exact Or.inr rfl)) pgs_nil)))) (fun _ _ _ _ _ => pts_y) (fun _ _ _ _ _ => (sv 14)))))) (by with_unfolding_all rfl))))) (.inl rfl))
    (ss_cons (ss_set (i := 15) nd rfl (by first | exact Or.inl rfl | exact Or.inr rfl) (sx_call (O__law_first.mono (by decide)) hr rfl fc.g__law_first F__law_first.kp B__law_first tk (sa_cons (se_op op_addA ops_add (sv 11) (se_frz (sn_lst (sa_cons (se_tup (sa_cons se_str (sa_cons (sv 12) sa_nil))) sa_nil)))) sa_nil)) (.inl rfl))
    (ss_cons (ss_if (st_cmp (op_neD (hu64 hr)) opb_ne (se_lam (k := 5) (at_ := (("law", none) : He.Defn)) F__law_word rfl fc.g__law_word B__law_word sc__law_word rfl (by first | exact Or.inl rfl | exact Or.inr (Or.inl rfl) | exact Or.inr (Or.inr rfl)) (fun _ => gv__law_word fc) tx.T tx.nd (List.mem_of_getElem? (i := 0) rfl) (tx.tb _ (List.mem_of_getElem? (i := 0) rfl)) rfl (hr.mono (by decide)) (lamS_by (sc := defScope (top 33)) (by decide +kernel)) rfl (fun _ _ _ _ _ => rfl) (fun _ _ _ _ _ _ _ hr tk => (sx_meth fc.g_Ideal (sv 4) fc.c_Ideal fc.m_Ideal_push (O_Ideal_push.mono (by decide)) hr B_Ideal_push tk (sa_cons (sv 6) (sa_cons (sv 8) sa_nil))))) (sv 15) (nomark _)) (ss_one (ss_ret se_bl)) ss_nil)
    (ss_cons (ss_if (st_cmp (op_eqD (hu64 hr)) opb_eq (sv 15) se_str (nomark _)) (ss_one (ss_putR (ps_asg (sx_call (O__law_inserted.mono (by decide)) hr rfl fc.g__law_inserted F__law_inserted.kp B__law_inserted tk (sa_cons (se_ix (sl_e (sv 5)) (sv 6) (fun _ _ => rfl)) (sa_cons (sv 8) sa_nil))) (pg_sub (sv 5) (sv 6) set_list)))) ss_nil)
    (ss_cons (ss_if (st_cmp (op_eqD (hu64 hr)) opb_eq (sx_call (O__law_draw.mono (by decide)) hr rfl fc.g__law_draw F__law_draw.kp B__law_draw tk (sa_cons (sv 1) (sa_cons se_int sa_nil))) se_int (nomark _)) (ss_cons (ss_set (i := 15) nd rfl (by first | exact Or.inl rfl | exact Or.inr rfl) (sx_call (O__law_first.mono (by decide)) hr rfl fc.g__law_first F__law_first.kp B__law_first tk (sa_cons (se_op op_addA ops_add (se_slice (sl_e (sv 11)) so_none (so_some se_int)) (se_frz (sn_lst (sa_cons (se_tup (sa_cons se_str (sa_cons (se_and (sv 9) (se_one (se_cmp op_gt (opb_int iGt) (se_l1 l1_len (pe_callB call_len_seq rfl fc.b_len boot_len (pa_cons (sl_e (se_ix (sl_e (sv 5)) (sv 6) (fun _ _ => rfl))) pa_nil))) se_int (nomark _)))) sa_nil))) sa_nil)))) sa_nil)) (.inl rfl))
    (ss_cons (ss_if (st_cmp (op_neD (hu64 hr)) opb_ne (se_lam (k := 5) (at_ := (("law", none) : He.Defn)) F__law_word rfl fc.g__law_word B__law_word sc__law_word rfl (by first | exact Or.inl rfl | exact Or.inr (Or.inl rfl) | exact Or.inr (Or.inr rfl)) (fun _ => gv__law_word fc) tx.T tx.nd (List.mem_of_getElem? (i := 0) rfl) (tx.tb _ (List.mem_of_getElem? (i := 0) rfl)) rfl (hr.mono (by decide)) (lamS_by (sc := defScope (top 33)) (by decide +kernel)) rfl (fun _ _ _ _ _ => rfl) (fun _ _ _ _ _ _ _ hr tk => (sx_meth fc.g_Ideal (sv 4) fc.c_Ideal fc.m_Ideal_let_go (O_Ideal_let_go.mono (by decide)) hr B_Ideal_let_go tk (sa_cons (sv 6) sa_nil)))) (sv 15) (nomark _)) (ss_one (ss_ret se_bl)) ss_nil)
    (ss_one (ss_if (st_cmp (op_eqD (hu64 hr)) opb_eq (sv 15) se_str (nomark _)) (ss_one (ss_putR (ps_asg (se_slice (sl_e (se_ix (sl_e (sv 5)) (sv 6) (fun _ _ => rfl))) (so_some se_int) so_none) (pg_sub (sv 5) (sv 6) set_list)))) ss_nil)))) ss_nil)
    (ss_one (ss_if (st_cmp (op_neD (hu64 hr)) opb_ne (se_frz (sn_lcT g_name (gs_in rfl) (pe_lc (own := [("_law_one", 16)]) rfl nd (si_range1 (pi_range1 rfl fc.b_range (pa_cons (sv 3) pa_nil))) (blkOk_by (N := ["_law_script", "_law_hand_here", "_law_many", "_law_outputs", "_law_ideal", "_law_rows", "_law_output", "_law_turn", "_law_key_here", "_law_is_out", "_law_is_key_here", "_law_pairs", "_law_is_new", "_law_rank", "_law_cell", "_law_due", "_law_one", "_law_row"]) (sc := defScope (top 33)) (by decide +kernel)) (fun _ _ _ _ _ => (pg_name (i := 16) nd rfl (by first | exact Or.inl rfl | exact Or.inr rfl))) (fun _ _ _ _ _ => pts_y) (fun _ _ _ _ _ => (sx_meth fc.g_Ideal (sv 4) fc.c_Ideal fc.m_Ideal_held (O_Ideal_held.mono (by decide)) hr B_Ideal_held takes_none5 (sa_cons (sv 16) sa_nil)))))) (se_frz (sn_lcT g_name (gs_in rfl) (pe_lc (own := [("_law_row", 17)]) rfl nd (si_seq (sv 5)) (blkOk_by (N := ["_law_script", "_law_hand_here", "_law_many", "_law_outputs", "_law_ideal", "_law_rows", "_law_output", "_law_turn", "_law_key_here", "_law_is_out", "_law_is_key_here", "_law_pairs", "_law_is_new", "_law_rank", "_law_cell", "_law_due", "_law_one", "_law_row"]) (sc := defScope (top 33)) (by decide +kernel)) (fun _ _ _ _ _ => (pg_name (i := 17) nd rfl (by first | exact Or.inl rfl | exact Or.inr rfl))) (fun _ _ _ _ _ => pts_y) (fun _ _ _ _ _ => (se_tupOf (pe_callTy call_tuple_of rfl fc.b_tuple boot_tuple (pa_cons (sl_e (sv 17)) pa_nil))))))) (nomark _)) (ss_one (ss_ret se_bl)) ss_nil))))))))))))))
    (ss_one (ss_ret se_bl))))))))
end
end L06

end
section
set_option Elab.async false
set_option linter.all false
set_option maxRecDepth 100000
set_option maxHeartbeats 4000000
/-! What the small tongue tells, as equations: no machine here. -/
namespace Dn
open PySem
@[simp] theorem eC_ap (d : D)  (r : Rho) (S : Store) : eC d r S = (.ok d S) := nr rfl
@[simp] theorem eVar_ap (i : Nat)  (r : Rho) (S : Store) : eVar i r S = (match r[i]? with
  | some (.val d) => .ok d S
  | _ => .bad) := nr rfl
@[simp] theorem eOp_ap (f : Store → D → D → Option D) (a b : DE)  (r : Rho) (S : Store) : eOp f a b r S = ((a r S).bind fun x S => (b r S).bind fun y S => Rs.ofO (f S x y) S) := nr rfl
@[simp] theorem eUn_ap (f : D → Option D) (a : DE)  (r : Rho) (S : Store) : eUn f a r S = ((a r S).bind fun x S => Rs.ofO (f x) S) := nr rfl
@[simp] theorem eCmp_ap (f : Store → D → D → Option Bool) (a b : DE)  (r : Rho) (S : Store) : eCmp f a b r S = ((a r S).bind fun x S => (b r S).bind fun y S => Rs.ofO ((f S x y).map D.bl) S) := nr rfl
@[simp] theorem eCmp1_ap (f : D → Option Bool) (a : DE)  (r : Rho) (S : Store) : eCmp1 f a r S = ((a r S).bind fun x S => Rs.ofO ((f x).map D.bl) S) := nr rfl
@[simp] theorem eChain_ap (f g : Store → D → D → Option Bool) (a b c : DE)  (r : Rho) (S : Store) : eChain f g a b c r S = ((a r S).bind fun x S => (b r S).bind fun y S => (Rs.ofO (f S x y) S).bind fun k S =>
  if k then (c r S).bind fun z S => Rs.ofO ((g S y z).map D.bl) S else .ok (.bl false) S) := nr rfl
@[simp] theorem tOfB_ap (a : DE)  (r : Rho) (S : Store) : tOfB a r S = ((a r S).bind fun x S => match x with
  | .bl b => .ok b S
  | _ => .bad) := nr rfl
@[simp] theorem tNotD_ap (a : DT)  (r : Rho) (S : Store) : tNotD a r S = ((a r S).bind fun x S => .ok (!x) S) := nr rfl
@[simp] theorem tAndD_ap (a b : DT)  (r : Rho) (S : Store) : tAndD a b r S = ((a r S).bind fun x S => if x then b r S else .ok false S) := nr rfl
@[simp] theorem tOrD_ap (a b : DT)  (r : Rho) (S : Store) : tOrD a b r S = ((a r S).bind fun x S => if x then .ok true S else b r S) := nr rfl
@[simp] theorem eAnd_ap (a b : DE)  (r : Rho) (S : Store) : eAnd a b r S = ((a r S).bind fun x S => match x with
  | .bl c => if c then b r S else .ok (.bl false) S
  | _ => .bad) := nr rfl
@[simp] theorem eOr_ap (a b : DE)  (r : Rho) (S : Store) : eOr a b r S = ((a r S).bind fun x S => match x with
  | .bl c => if c then .ok (.bl true) S else b r S
  | _ => .bad) := nr rfl
@[simp] theorem eNot_ap (a : DE)  (r : Rho) (S : Store) : eNot a r S = ((a r S).bind fun x S => match x with
  | .bl c => .ok (.bl (!c)) S
  | _ => .bad) := nr rfl
@[simp] theorem eIf_ap (t : DT) (a b : DE)  (r : Rho) (S : Store) : eIf t a b r S = ((t r S).bind fun x S => if x then a r S else b r S) := nr rfl
@[simp] theorem aNil_ap   (r : Rho) (S : Store) : aNil  r S = (.ok [] S) := nr rfl
@[simp] theorem aCons_ap (a : DE) (b : DA)  (r : Rho) (S : Store) : aCons a b r S = ((a r S).bind fun x S => (b r S).bind fun xs S => .ok (x :: xs) S) := nr rfl
@[simp] theorem eTup_ap (a : DA)  (r : Rho) (S : Store) : eTup a r S = ((a r S).bind fun xs S => if xs.length ≤ sizeLine then .ok (.tup xs) S else .bad) := nr rfl
@[simp] theorem eLst_ap (a : DA)  (r : Rho) (S : Store) : eLst a r S = ((a r S).bind fun xs S => if xs.length ≤ sizeLine then .ok (.lst xs) S else .bad) := nr rfl
@[simp] theorem nLst_ap (a : DA)  (r : Rho) (S : Store) : nLst a r S = ((a r S).bind fun xs S => if xs.length ≤ sizeLine then .ok xs S else .bad) := nr rfl
@[simp] theorem eFrz_ap (a : DA)  (r : Rho) (S : Store) : eFrz a r S = ((a r S).bind fun xs S => .ok (.lst xs) S) := nr rfl
@[simp] theorem eNew_ap (a : DA)  (r : Rho) (S : Store) : eNew a r S = ((a r S).bind fun xs S => .ok (.ref S.length) (S ++ [.lst xs])) := nr rfl
@[simp] theorem eCall_ap (m : Fn) (a : DA)  (r : Rho) (S : Store) : eCall m a r S = ((a r S).bind fun xs S => m xs S) := nr rfl
@[simp] theorem lE_ap (a : DE)  (r : Rho) (S : Store) : lE a r S = ((a r S).bind fun x S => Rs.ofO (srcOf S x) S) := nr rfl
@[simp] theorem lOwn_ap (i : Nat)  (r : Rho) (S : Store) : lOwn i r S = (match r[i]? with
  | some (.own _) => .ok (.own i) S
  | _ => .bad) := nr rfl
@[simp] theorem eL1_ap (f : Bool → List D → Option D) (a : DL)  (r : Rho) (S : Store) : eL1 f a r S = ((a r S).bind fun c S => Rs.ofO ((c.get r S).bind (f c.isT)) S) := nr rfl
@[simp] theorem nLstOf_ap (a : DL)  (r : Rho) (S : Store) : nLstOf a r S = ((a r S).bind fun c S => Rs.ofO (c.get r S) S) := nr rfl
@[simp] theorem eCount_ap (b : DL) (a : DE)  (r : Rho) (S : Store) : eCount b a r S = ((b r S).bind fun c S => (Rs.ofO (if c.isT then none else c.get r S) S).bind fun _ S => (a r S).bind fun x S => (Rs.ofO (c.get r S) S).bind fun xs S =>
  if D.pl 63 x && D.pls 63 xs then .ok (.int (xs.countP fun z => eqD z x : Nat)) S else .bad) := nr rfl
@[simp] theorem eIndex_ap (b : DL) (a : DE)  (r : Rho) (S : Store) : eIndex b a r S = ((b r S).bind fun c S => (Rs.ofO (if c.isT then none else c.get r S) S).bind fun _ S => (a r S).bind fun x S => (Rs.ofO (c.get r S) S).bind fun xs S =>
  if D.pl 63 x && D.pls 63 xs && xs.any (fun z => eqD z x) then .ok (.int (xs.findIdx fun z => eqD z x : Nat)) S else .bad) := nr rfl
@[simp] theorem eLenS_ap (a : DE)  (r : Rho) (S : Store) : eLenS a r S = ((a r S).bind fun x S => match x with
  | .str z => if z.length ≤ sizeLine then .ok (.int z.length) S else .bad
  | _ => .bad) := nr rfl
@[simp] theorem eIx_ap (a : DL) (b : DE)  (r : Rho) (S : Store) : eIx a b r S = ((a r S).bind fun c S => (b r S).bind fun y S => match y with
  | .int i => Rs.ofO ((c.get r S).bind fun xs => atD xs i) S
  | _ => .bad) := nr rfl
@[simp] theorem eAppR_ap (o a : DE)  (r : Rho) (S : Store) : eAppR o a r S = ((o r S).bind fun p S => match p with
  | .ref l => (match S[l]? with
    | some (.lst _) => (a r S).bind fun x S => (match S[l]? with
      | some (.lst xs) => if xs.length < sizeLine then .ok .non (S.set l (.lst (xs ++ [x]))) else .bad
      | _ => .bad)
    | _ => .bad)
  | _ => .bad) := nr rfl
@[simp] theorem ePopR_ap (o k : DE)  (r : Rho) (S : Store) : ePopR o k r S = ((o r S).bind fun p S => match p with
  | .ref l => (match S[l]? with
    | some (.lst _) => (k r S).bind fun n S => (match n, S[l]? with
      | .int j, some (.lst xs) => (match place xs.length j with
        | some m => (match xs[m]? with
          | some y => .ok y (S.set l (.lst (xs.eraseIdx m)))
          | none => .bad)
        | none => .bad)
      | _, _ => .bad)
    | _ => .bad)
  | _ => .bad) := nr rfl
@[simp] theorem ePopR0_ap (o : DE)  (r : Rho) (S : Store) : ePopR0 o r S = ((o r S).bind fun p S => match p with
  | .ref l => (match S[l]? with
    | some (.lst xs) => (match xs[xs.length - 1]? with
      | some y => .ok y (S.set l (.lst xs.dropLast))
      | none => .bad)
    | _ => .bad)
  | _ => .bad) := nr rfl
@[simp] theorem oNone_ap   (r : Rho) (S : Store) : oNone  r S = (.ok none S) := nr rfl
@[simp] theorem oSome_ap (a : DE)  (r : Rho) (S : Store) : oSome a r S = ((a r S).bind fun x S => match x with
  | .int i => .ok (some i) S
  | _ => .bad) := nr rfl
@[simp] theorem eSlice_ap (a : DL) (lo hi : DO)  (r : Rho) (S : Store) : eSlice a lo hi r S = ((a r S).bind fun c S => (lo r S).bind fun l S => (hi r S).bind fun u S => (Rs.ofO (c.get r S) S).bind fun xs S =>
  .ok (if c.isT then .tup (cutD xs l u) else .lst (cutD xs l u)) S) := nr rfl
@[simp] theorem nSorted_ap (a : DL)  (r : Rho) (S : Store) : nSorted a r S = ((a r S).bind fun c S => (Rs.ofO (c.get r S) S).bind fun xs S => if !c.isT && sortOk xs then .ok (sortD xs) S else .bad) := nr rfl
theorem eIn_ap (neg : Bool) (a : DE) (b : DL)  (r : Rho) (S : Store) : eIn neg a b r S = ((a r S).bind fun x S => (b r S).bind fun c S => (Rs.ofO (c.get r S) S).bind fun xs S =>
  if D.pl 63 x && D.pls 63 xs then .ok (.bl (if neg then !xs.any (fun z => eqD z x) else xs.any (fun z => eqD z x))) S else .bad) := rfl
@[simp] theorem eAbs_ap (a : DE)  (r : Rho) (S : Store) : eAbs a r S = ((a r S).bind fun x S => match x with
  | .int i => .ok (.int (if i < 0 then -i else i)) S
  | _ => .bad) := nr rfl
@[simp] theorem eInt_ap (a : DE)  (r : Rho) (S : Store) : eInt a r S = ((a r S).bind fun x S => match x with
  | .int i => .ok (.int i) S
  | .bl b => .ok (.int (if b then 1 else 0)) S
  | _ => .bad) := nr rfl
@[simp] theorem eMin2_ap (a b : DE)  (r : Rho) (S : Store) : eMin2 a b r S = ((a r S).bind fun x S => (b r S).bind fun y S => match x, y with
  | .int i, .int j => .ok (.int (if j < i then j else i)) S
  | _, _ => .bad) := nr rfl
@[simp] theorem eMax2_ap (a b : DE)  (r : Rho) (S : Store) : eMax2 a b r S = ((a r S).bind fun x S => (b r S).bind fun y S => match x, y with
  | .int i, .int j => .ok (.int (if j > i then j else i)) S
  | _, _ => .bad) := nr rfl
@[simp] theorem eIsTy_ap (n : String) (a : DE)  (r : Rho) (S : Store) : eIsTy n a r S = ((a r S).bind fun x S => match tyName S x with
  | some t => .ok (.bl (isTy t n)) S
  | none => .bad) := nr rfl
@[simp] theorem eFld_ap (cs : List Str) (f : Str) (a : DE)  (r : Rho) (S : Store) : eFld cs f a r S = ((a r S).bind fun x S => match x with
  | .ref l => (match S[l]? with
    | some (.ins c fs) => if c ∈ cs then Rs.ofO (fs.lookup f) S else .bad
    | _ => .bad)
  | _ => .bad) := nr rfl
@[simp] theorem eMeth_ap (c m : Str) (g : Fn) (o : DE) (a : DA)  (r : Rho) (S : Store) : eMeth c m g o a r S = ((o r S).bind fun x S => match x with
  | .ref l => (match S[l]? with
    | some (.ins k fs) => if k = c ∧ fs.lookup m = none then (a r S).bind fun xs S => g (x :: xs) S else .bad
    | _ => .bad)
  | _ => .bad) := nr rfl
@[simp] theorem eMake_ap (c : Str) (g : Fn) (a : DA)  (r : Rho) (S : Store) : eMake c g a r S = ((a r S).bind fun xs S => (g (.ref S.length :: xs) (S ++ [.ins c []])).bind fun v S2 => match v with
  | .non => .ok (.ref S.length) S2
  | _ => .bad) := nr rfl
@[simp] theorem tYesD_ap   (r : Rho) (S : Store) : tYesD  r S = (.ok true S) := nr rfl
theorem nLc_ap (its : DI) (g : DG) (t : DT) (e : DE) (vs : List Nat)  (r : Rho) (S : Store) : nLc its g t e vs r S = ((its r S).bind fun w S => lcGo w.ok g t e (wipeD r vs) w.xs S) := rfl
theorem iRange1_ap (a : DE)  (r : Rho) (S : Store) : iRange1 a r S = ((a r S).bind fun x S => match x with
  | .int j => if rOk j && decide (j ≤ sizeLine) then .ok (wkS (rangeD 0 j)) S else .bad
  | _ => .bad) := rfl
theorem iRange2_ap (a b : DE)  (r : Rho) (S : Store) : iRange2 a b r S = ((a r S).bind fun x S => (b r S).bind fun y S => match x, y with
  | .int i, .int j => if rOk i && rOk j && decide (j - i ≤ sizeLine) then .ok (wkS (rangeD i j)) S else .bad
  | _, _ => .bad) := rfl
@[simp] theorem iSeqD_ap (a : DE)  (r : Rho) (S : Store) : iSeqD a r S = ((a r S).bind fun x S => Rs.ofO (wkOf S x) S) := nr rfl
@[simp] theorem iEnumD_ap (a : DE)  (r : Rho) (S : Store) : iEnumD a r S = ((a r S).bind fun x S => match wkL S x with
  | some w => if w.xs.length ≤ sizeLine then .ok ⟨enumD 0 w.xs, w.ok⟩ S else .bad
  | none => .bad) := nr rfl
@[simp] theorem iZipD_ap (a b : DE)  (r : Rho) (S : Store) : iZipD a b r S = ((a r S).bind fun x S => (b r S).bind fun y S => match wkZ S x y with
  | some w => if w.xs.length ≤ sizeLine then .ok w S else .bad
  | none => .bad) := nr rfl
@[simp] theorem sNext_ap   (r : Rho) (S : Store) : sNext  r S = (.next r S) := nr rfl
@[simp] theorem sSeq_ap (a b : DS)  (r : Rho) (S : Store) : sSeq a b r S = ((a r S).bind b) := nr rfl
@[simp] theorem sSet_ap (i : Nat) (a : DE)  (r : Rho) (S : Store) : sSet i a r S = ((a r S).toS r fun x S => if i < r.length then .next (r.set i (.val x)) S else .bad) := nr rfl
@[simp] theorem sSetOwn_ap (i : Nat) (a : DA)  (r : Rho) (S : Store) : sSetOwn i a r S = ((a r S).toS r fun xs S => if i < r.length then .next (r.set i (.own xs)) S else .bad) := nr rfl
@[simp] theorem sAsg_ap (a : DE) (g : DG)  (r : Rho) (S : Store) : sAsg a g r S = ((a r S).toS r fun x S => match g x r S with
  | some r' => .next r' S
  | none => .bad) := nr rfl
@[simp] theorem sPar_ap (i j : Nat) (a b : DE)  (r : Rho) (S : Store) : sPar i j a b r S = ((a r S).toS r fun x S => (b r S).toS r fun y S => if i < r.length ∧ j < r.length then .next ((r.set i (.val x)).set j (.val y)) S else .bad) := nr rfl
@[simp] theorem sDrop_ap (a : DE)  (r : Rho) (S : Store) : sDrop a r S = ((a r S).toS r fun _ S => .next r S) := nr rfl
@[simp] theorem sRet_ap (a : DE)  (r : Rho) (S : Store) : sRet a r S = ((a r S).toS r fun x S => .ret x r S) := nr rfl
@[simp] theorem sRetOwn_ap (i : Nat)  (r : Rho) (S : Store) : sRetOwn i r S = (match r[i]? with
  | some (.own xs) => if noLam r then .ret (.lst xs) (r.set i .un) S else .bad
  | _ => .bad) := nr rfl
@[simp] theorem sFrz_ap (i : Nat)  (r : Rho) (S : Store) : sFrz i r S = (match r[i]? with
  | some (.own xs) => if noLam r then .next (r.set i (.val (.lst xs))) S else .bad
  | _ => .bad) := nr rfl
@[simp] theorem sRetN_ap   (r : Rho) (S : Store) : sRetN  r S = (.ret .non r S) := nr rfl
@[simp] theorem sIf_ap (t : DT) (a b : DS)  (r : Rho) (S : Store) : sIf t a b r S = ((t r S).toS r fun x S => if x then a r S else b r S) := nr rfl
@[simp] theorem sBrk_ap   (r : Rho) (S : Store) : sBrk  r S = (.brk r S) := nr rfl
@[simp] theorem sCnt_ap   (r : Rho) (S : Store) : sCnt  r S = (.cont r S) := nr rfl
@[simp] theorem sBad_ap   (r : Rho) (S : Store) : sBad  r S = (.bad) := nr rfl
@[simp] theorem sApp_ap (i : Nat) (a : DE)  (r : Rho) (S : Store) : sApp i a r S = (match r[i]? with
  | some (.own _) => (a r S).toS r fun x S => match r[i]? with
    | some (.own xs) => if xs.length < sizeLine then .next (r.set i (.own (xs ++ [x]))) S else .bad
    | _ => .bad
  | _ => .bad) := nr rfl
@[simp] theorem sPutR_ap (o k : DE) (a : DE)  (r : Rho) (S : Store) : sPutR o k a r S = ((a r S).toS r fun x S => (o r S).toS r fun p S => (k r S).toS r fun n S => match p, n with
  | .ref l, .int j => (match S[l]? with
    | some (.lst xs) => (match place xs.length j with
      | some m => .next r (S.set l (.lst (xs.set m x)))
      | none => .bad)
    | _ => .bad)
  | _, _ => .bad) := nr rfl
@[simp] theorem sPut_ap (i : Nat) (k : DE) (a : DE)  (r : Rho) (S : Store) : sPut i k a r S = ((a r S).toS r fun x S => match r[i]? with
  | some (.own _) => (k r S).toS r fun n S => (match n, r[i]? with
    | .int j, some (.own xs) => (match place xs.length j with
      | some m => .next (r.set i (.own (xs.set m x))) S
      | none => .bad)
    | _, _ => .bad)
  | _ => .bad) := nr rfl
@[simp] theorem sFldD_ap (cs : List Str) (f : Str) (o : DE) (a : DE)  (r : Rho) (S : Store) : sFldD cs f o a r S = ((a r S).toS r fun x S => (o r S).toS r fun p S => match p with
  | .ref l => (match S[l]? with
    | some (.ins c fs) => if c ∈ cs ∧ fs.length < 1000 then .next r (S.set l (.ins c (putFD f x fs))) else .bad
    | _ => .bad)
  | _ => .bad) := nr rfl
@[simp] theorem sAugI_ap (i : Nat) (f : Int → Int → Int) (a : DE)  (r : Rho) (S : Store) : sAugI i f a r S = (match r[i]? with
  | some (.val (.int x)) => (a r S).toS r fun y S => (match y with
    | .int j => .next (r.set i (.val (.int (f x j)))) S
    | _ => .bad)
  | _ => .bad) := nr rfl
@[simp] theorem sFor_ap (its : DI) (g : DG) (b : DS)  (r : Rho) (S : Store) : sFor its g b r S = ((its r S).toS r fun w S => forGo w.ok g b w.xs r S) := nr rfl

@[simp] theorem eLen_ap (a : DL) (r : Rho) (S : Store) : eLen a r S = ((a r S).bind fun c S => Rs.ofO ((c.get r S).bind fun xs => some (.int xs.length)) S) := nr rfl
@[simp] theorem eTupOf_ap (a : DL) (r : Rho) (S : Store) : eTupOf a r S = ((a r S).bind fun c S => Rs.ofO ((c.get r S).bind fun xs => some (.tup xs)) S) := nr rfl
@[simp] theorem eAll_ap (a : DL) (r : Rho) (S : Store) : eAll a r S = ((a r S).bind fun c S => Rs.ofO ((c.get r S).bind fun xs => if c.isT then none else (boolsOf xs).map fun bs => .bl (bs.all id)) S) := nr rfl
@[simp] theorem eAny_ap (a : DL) (r : Rho) (S : Store) : eAny a r S = ((a r S).bind fun c S => Rs.ofO ((c.get r S).bind fun xs => if c.isT then none else (boolsOf xs).map fun bs => .bl (bs.any id)) S) := nr rfl
@[simp] theorem eSum_ap (a : DL) (r : Rho) (S : Store) : eSum a r S = ((a r S).bind fun c S => Rs.ofO ((c.get r S).bind fun xs => if c.isT then none else (intsOf xs).map fun ns => .int ns.sum) S) := nr rfl
/-! ### values -/
@[simp] theorem srcOf_tup (S : Store) (xs : List D) : srcOf S (.tup xs) = some (.cst true xs) := nr rfl
@[simp] theorem srcOf_lst (S : Store) (xs : List D) : srcOf S (.lst xs) = some (.cst false xs) := nr rfl
theorem srcOf_ref {S : Store} {l : Nat} {xs : List D} (h : S[l]? = some (.lst xs)) : srcOf S (.ref l) = some (.loc l) := by simp [srcOf, h]
@[simp] theorem get_cst (t : Bool) (xs : List D) (r : Rho) (S : Store) : (Src.cst t xs).get r S = some xs := nr rfl
theorem get_loc {S : Store} {l : Nat} {xs : List D} {r : Rho} (h : S[l]? = some (.lst xs)) : (Src.loc l).get r S = some xs := by simp [Src.get, h]
@[simp] theorem isT_cst (t : Bool) (xs : List D) : (Src.cst t xs).isT = t := nr rfl
@[simp] theorem isT_loc (l : Nat) : (Src.loc l).isT = false := nr rfl
@[simp] theorem cmpEq_int (S : Store) (a b : Int) : cmpEq S (.int a) (.int b) = some (decide (a = b)) := by
  simp [cmpEq, flatL, D.pl, eqD]
  by_cases h : a = b <;> simp [h]
@[simp] theorem cmpNe_int (S : Store) (a b : Int) : cmpNe S (.int a) (.int b) = some (!decide (a = b)) := by
  simp [cmpNe, flatL, D.pl, eqD]
  by_cases h : a = b <;> simp [h]
@[simp] theorem cmpI_int (p : Int → Int → Bool) (a b : Int) : cmpI p (.int a) (.int b) = some (p a b) := nr rfl
@[simp] theorem opAdd_int (S : Store) (a b : Int) : opAdd S (.int a) (.int b) = some (.int (a + b)) := nr rfl
@[simp] theorem opSub_int (a b : Int) : opSub (.int a) (.int b) = some (.int (a - b)) := nr rfl
@[simp] theorem opNeg_int (a : Int) : opNeg (.int a) = some (.int (-a)) := nr rfl
theorem opMul_int {S : Store} {a b : Int} (h : mulOk a b = true) : opMul S (.int a) (.int b) = some (.int (a * b)) := by simp [opMul, h]
theorem opDiv_int {a b : Int} (h : 0 < b) (h2 : b < 1073741824) : opDiv (.int a) (.int b) = some (.int (a / b)) := by simp [opDiv, h, h2]
theorem opMod_int {a b : Int} (h : 0 < b) : opMod (.int a) (.int b) = some (.int (a % b)) := by simp [opMod, h]
theorem mulOk_l {a b : Int} (h1 : -(2 ^ 64) < a) (h2 : a < 2 ^ 64) : mulOk a b = true := by simp [mulOk]; left; exact ⟨h1, h2⟩
theorem mulOk_r {a b : Int} (h1 : -(2 ^ 64) < b) (h2 : b < 2 ^ 64) : mulOk a b = true := by simp [mulOk]; right; exact ⟨h1, h2⟩
theorem set_get {S : Store} {h : Nat} (o : SO) (hl : h < S.length) : (S.set h o)[h]? = some o := by simp [hl]
theorem set_get_ne {S : Store} {h k : Nat} (o : SO) (ne : h ≠ k) : (S.set h o)[k]? = S[k]? := by simp [ne]
theorem lt_of_get {S : Store} {h : Nat} {o : SO} (e : S[h]? = some o) : h < S.length := (List.getElem?_eq_some_iff.mp e).1
@[simp] theorem sizeLine_val : sizeLine = 16777216 := by decide
@[simp] theorem wkS_ok (xs : List D) : (wkS xs).ok = fun _ => True := nr rfl
@[simp] theorem wkS_xs (xs : List D) : (wkS xs).xs = xs := nr rfl
/-! ### the drawing of numbers, as many laws write it -/
def handO (gs : List Int) (p d s c : Int) : SO := .lst [.lst (gs.map D.int), .int p, .int d, .int s, .int c]
/-- the hand stands at h -/
def HandOk (S : Store) (h : Nat) : Prop := ∃ (gs : List Int) (p : Nat) (d s c : Int), S[h]? = some (handO gs p d s c) ∧ 0 ≤ d ∧ ∀ g ∈ gs, 0 ≤ g
def draw1 : DS := sIf (tAndD (tOfB (eCmp cmpEq (eIx (lE (eVar 0)) (eC (.int 2))) (eC (.int 0)))) (tOfB (eCmp (fun _ => cmpI iLt) (eIx (lE (eVar 0)) (eC (.int 1))) (eLen (lE (eIx (lE (eVar 0)) (eC (.int 0)))))))) (sSeq (sSet 2 (eIx (lE (eIx (lE (eVar 0)) (eC (.int 0)))) (eIx (lE (eVar 0)) (eC (.int 1))))) (sSeq (sPutR (eVar 0) (eC (.int 1)) (eOp opAdd (eIx (lE (eVar 0)) (eC (.int 1))) (eC (.int 1)))) (sSeq (sPutR (eVar 0) (eC (.int 3)) (eOp (fun _ => opMod) (eInt (eOp opAdd (eOp opAdd (eOp opMul (eIx (lE (eVar 0)) (eC (.int 3))) (eC (.int 69621))) (eVar 2)) (eC (.int 11)))) (eC (.int 2147483629)))) (sIf (tOfB (eCmp (fun _ => cmpI iGe) (eVar 2) (eOp (fun _ => opPow) (eC (.int 10)) (eC (.int 18))))) (sPutR (eVar 0) (eC (.int 2)) (eVar 2)) (sNext))))) (sNext)
def draw2 : DS := sIf (tOfB (eCmp (fun _ => cmpI iGt) (eIx (lE (eVar 0)) (eC (.int 2))) (eC (.int 0)))) (sSeq (sSet 3 (eOp (fun _ => opMod) (eInt (eIx (lE (eVar 0)) (eC (.int 2)))) (eVar 1))) (sSeq (sPutR (eVar 0) (eC (.int 2)) (eOp (fun _ => opDiv) (eIx (lE (eVar 0)) (eC (.int 2))) (eVar 1))) (sRet (eVar 3)))) (sNext)
def draw3 : DS := sSeq (sPutR (eVar 0) (eC (.int 4)) (eOp opAdd (eIx (lE (eVar 0)) (eC (.int 4))) (eC (.int 1)))) (sSeq (sSet 4 (eOp (fun _ => opMod) (eInt (eOp opMul (eInt (eOp opAdd (eIx (lE (eVar 0)) (eC (.int 3))) (eOp opMul (eC (.int 7919)) (eIx (lE (eVar 0)) (eC (.int 4)))))) (eC (.int 48271)))) (eC (.int 2147483647)))) (sSeq (sSet 4 (eOp (fun _ => opMod) (eInt (eOp opMul (eVar 4) (eOp opAdd (eOp (fun _ => opDiv) (eVar 4) (eC (.int 1009))) (eC (.int 69621))))) (eC (.int 2147483647)))) (sSeq (sSet 4 (eOp (fun _ => opMod) (eInt (eOp opMul (eVar 4) (eOp opAdd (eOp (fun _ => opDiv) (eVar 4) (eC (.int 2003))) (eC (.int 40692))))) (eC (.int 2147483399)))) (sRet (eOp (fun _ => opMod) (eInt (eOp (fun _ => opDiv) (eVar 4) (eC (.int 16)))) (eVar 1))))))
def drawF : Fn := fnD 2 5 (sSeq draw1 (sSeq draw2 draw3))
@[simp] theorem hand_at0 (gs : List Int) (p d s c : Int) : atD [.lst (gs.map D.int), .int p, .int d, .int s, .int c] 0 = some (.lst (gs.map D.int)) := nr rfl
@[simp] theorem hand_at1 (x : D) (p d s c : Int) : atD [x, .int p, .int d, .int s, .int c] 1 = some (.int p) := nr rfl
@[simp] theorem hand_at2 (x : D) (p d s c : Int) : atD [x, .int p, .int d, .int s, .int c] 2 = some (.int d) := nr rfl
@[simp] theorem hand_at3 (x : D) (p d s c : Int) : atD [x, .int p, .int d, .int s, .int c] 3 = some (.int s) := nr rfl
@[simp] theorem hand_at4 (x : D) (p d s c : Int) : atD [x, .int p, .int d, .int s, .int c] 4 = some (.int c) := nr rfl
theorem atD_nat {xs : List D} {i : Nat} {d : D} (h : xs[i]? = some d) : atD xs (i : Int) = some d := by
  have hl : i < xs.length := (List.getElem?_eq_some_iff.mp h).1
  have e : xs[i] = d := by
    rw [List.getElem?_eq_getElem hl] at h
    exact Option.some.inj h
  simp [atD, place, hl, e]
theorem place_nat {n i : Nat} (h : i < n) : place n (i : Int) = some i := by simp [place, h]
theorem place_lt {n : Nat} {i : Int} (h0 : 0 ≤ i) (h : i < n) : place n i = some i.toNat := by simp [place, h0, h]
theorem set_same {S : Store} {h : Nat} {o : SO} (e : S[h]? = some o) : S.set h o = S := by
  apply List.ext_getElem?
  intro i
  by_cases q : h = i
  · subst q
    rw [set_get o (lt_of_get e), e]
  · rw [set_get_ne o q]
theorem draw1_ok {S : Store} {h : Nat} {gs : List Int} {p : Nat} {d s c many : Int} (hS : S[h]? = some (handO gs p d s c)) (hd : 0 ≤ d) (hg : ∀ g ∈ gs, 0 ≤ g) :
    ∃ (x : Sl) (p' : Nat) (d' s' : Int), draw1 [.val (.ref h), .val (.int many), .un, .un, .un] S = .next [.val (.ref h), .val (.int many), x, .un, .un] (S.set h (handO gs p' d' s' c)) ∧ 0 ≤ d' := by
  have hl := lt_of_get hS
  have hS' : S[h]? = some (.lst [.lst (gs.map D.int), .int p, .int d, .int s, .int c]) := hS
  by_cases hc : d = 0 ∧ p < gs.length
  · obtain ⟨rfl, hp⟩ := hc
    have hg2 : (gs.map D.int)[p]? = some (.int gs[p]) := by simp [hp]
    have hg3 := atD_nat hg2
    have m1 : opMul S (.int s) (.int 69621) = some (.int (s * 69621)) := opMul_int (mulOk_r (by decide) (by decide))
    have hp2 : (p : Int) < gs.length := by omega
    by_cases hb : (1000000000000000000 : Int) ≤ gs[p]
    · refine ⟨.val (.int gs[p]), p + 1, gs[p], (s * 69621 + gs[p] + 11) % 2147483629, ?_, by omega⟩
      simp [draw1, srcOf, Src.get, hS', set_get _ hl, hp2, hg3, opMul_int (mulOk_r (a := s) (b := 69621) (by decide) (by decide)), opMod, place, opPow, hb, handO]
    · refine ⟨.val (.int gs[p]), p + 1, 0, (s * 69621 + gs[p] + 11) % 2147483629, ?_, by omega⟩
      simp [draw1, srcOf, Src.get, hS', set_get _ hl, hp2, hg3, opMul_int (mulOk_r (a := s) (b := 69621) (by decide) (by decide)), opMod, place, opPow, hb, handO]
  · refine ⟨.un, p, d, s, ?_, hd⟩
    rw [set_same hS]
    by_cases h0 : d = 0
    · subst h0
      have hp2 : ¬ ((p : Int) < gs.length) := by omega
      simp [draw1, srcOf, Src.get, hS', hp2]
    · simp [draw1, srcOf, Src.get, hS', h0]
theorem draw2_ok {S : Store} {h : Nat} {gs : List Int} {p d s c many : Int} {x : Sl} (hS : S[h]? = some (handO gs p d s c)) (hd : 0 < d) (h1 : 1 ≤ many) (h2 : many < 1073741824) :
    draw2 [.val (.ref h), .val (.int many), x, .un, .un] S = .ret (.int (d % many)) [.val (.ref h), .val (.int many), x, .val (.int (d % many)), .un] (S.set h (handO gs p (d / many) s c)) := by
  have hl := lt_of_get hS
  have hS' : S[h]? = some (.lst [.lst (gs.map D.int), .int p, .int d, .int s, .int c]) := hS
  have h1' : 0 < many := by omega
  simp [draw2, srcOf, Src.get, hS', set_get _ hl, opMod, opDiv, place, hd, h1', h2, handO]
theorem draw2_no {S : Store} {h : Nat} {gs : List Int} {p d s c many : Int} {x : Sl} (hS : S[h]? = some (handO gs p d s c)) (hd : ¬ 0 < d) :
    draw2 [.val (.ref h), .val (.int many), x, .un, .un] S = .next [.val (.ref h), .val (.int many), x, .un, .un] S := by
  have hS' : S[h]? = some (.lst [.lst (gs.map D.int), .int p, .int d, .int s, .int c]) := hS
  simp [draw2, srcOf, Src.get, hS', hd]
theorem draw3_ok {S : Store} {h : Nat} {gs : List Int} {p d s c many : Int} {x : Sl} (hS : S[h]? = some (handO gs p d s c)) (h1 : 1 ≤ many) :
    ∃ (v : Int) (r : Rho), draw3 [.val (.ref h), .val (.int many), x, .un, .un] S = .ret (.int (v % many)) r (S.set h (handO gs p d s (c + 1))) := by
  have hl := lt_of_get hS
  have hS' : S[h]? = some (.lst [.lst (gs.map D.int), .int p, .int d, .int s, .int c]) := hS
  have h1' : 0 < many := by omega
  have e1 : ∀ (S : Store) (a : Int), opMul S (.int a) (.int 48271) = some (.int (a * 48271)) := fun S a => opMul_int (mulOk_r (by decide) (by decide))
  have e2 : ∀ (S : Store) (a : Int), opMul S (.int 7919) (.int a) = some (.int (7919 * a)) := fun S a => opMul_int (mulOk_l (by decide) (by decide))
  have e3 : ∀ (S : Store) (a b : Int), opMul S (.int (a % 2147483647)) (.int b) = some (.int (a % 2147483647 * b)) := fun S a b => opMul_int (mulOk_l (by omega) (by omega))
  simp [draw3, srcOf, Src.get, hS', set_get _ hl, opMod, opDiv, place, h1', handO, e1, e2, e3]
  exact ⟨_, rfl⟩
theorem set_set {S : Store} {h : Nat} {a b : SO} : (S.set h a).set h b = S.set h b := by simp
/-- a number is drawn: below many; only the hand changes -/
theorem draw_ok {S : Store} {h : Nat} {many : Int} (hS : HandOk S h) (h1 : 1 ≤ many) (h2 : many < 1073741824) :
    ∃ (v : Int) (o : SO), drawF [.ref h, .int many] S = .ok (.int v) (S.set h o) ∧ HandOk (S.set h o) h ∧ 0 ≤ v ∧ v < many := by
  obtain ⟨gs, p, d, s, c, hS, hd, hg⟩ := hS
  have hl := lt_of_get hS
  obtain ⟨x, p', d', s', e1, hd'⟩ := draw1_ok (many := many) hS hd hg
  have hS1 : (S.set h (handO gs p' d' s' c))[h]? = some (handO gs p' d' s' c) := set_get _ hl
  by_cases hp : 0 < d'
  · refine ⟨d' % many, handO gs p' (d' / many) s' c, ?_, ⟨gs, p', d' / many, s', c, set_get _ hl, Int.ediv_nonneg hd' (by omega), hg⟩, Int.emod_nonneg _ (by omega), Int.emod_lt_of_pos _ (by omega)⟩
    have e2 := draw2_ok (x := x) hS1 hp h1 h2
    rw [set_set] at e2
    simp [drawF, fnD, e1, e2]
  · have e2 := draw2_no (x := x) (many := many) hS1 hp
    obtain ⟨v, r, e3⟩ := draw3_ok (x := x) hS1 h1
    rw [set_set] at e3
    refine ⟨v % many, handO gs p' d' s' (c + 1), ?_, ⟨gs, p', d', s', c + 1, set_get _ hl, hd', hg⟩, Int.emod_nonneg _ (by omega), Int.emod_lt_of_pos _ (by omega)⟩
    simp [drawF, fnD, e1, e2, e3]
/-- _law_hand: the hand of a script -/
noncomputable def handF : Fn := fnD 1 3 (sSeq (sSet 1 (eFrz (nLc (iSeqD (eSlice (lE (eVar 0)) oNone (oSome (eC (.int 63))))) (gNameD 2) (tYesD) (eAbs (eInt (eVar 2))) [2]))) (sRet (eNew (nLst (aCons (eVar 1) (aCons (eC (.int 0)) (aCons (eC (.int 0)) (aCons (eOp opAdd (eC (.int 1)) (eLen (lE (eVar 1)))) (aCons (eC (.int 0)) (aNil))))))))))
/-- a comprehension whose turns change nothing -/
theorem lcGo_pure {ok : Store → Prop} {g : DG} {t : DT} {e : DE} {r : Rho} {S : Store} (hok : ok S) {xs : List D} {ys : List D} (hl : ys.length = xs.length)
    (h : ∀ (i : Nat) (x y : D), xs[i]? = some x → ys[i]? = some y → ∃ r', g x r S = some r' ∧ t r' S = .ok true S ∧ e r' S = .ok y S) : lcGo ok g t e r xs S = .ok ys S := by
  induction xs generalizing ys with
  | nil =>
    cases ys with
    | nil => simp [lcGo, hok]
    | cons _ _ => simp at hl
  | cons x xs ih =>
    cases ys with
    | nil => simp at hl
    | cons y ys =>
      obtain ⟨r', h1, h2, h3⟩ := h 0 x y rfl rfl
      have := ih (ys := ys) (by simpa using hl) fun i a b ha hb => h (i + 1) a b (by simpa using ha) (by simpa using hb)
      simp [lcGo, hok, h1, h2, h3, this]
theorem get_map {a b : Type} {f : a → b} {xs : List a} {i : Nat} {y : b} (h : (xs.map f)[i]? = some y) : ∃ x, xs[i]? = some x ∧ y = f x := by
  rw [List.getElem?_map] at h
  cases q : xs[i]? with
  | none => rw [q] at h; cases h
  | some x => rw [q] at h; cases h; exact ⟨x, rfl, rfl⟩
theorem hand_ok {ns : List Int} {S : Store} : ∃ gs c, handF [.lst (ns.map D.int)] S = .ok (.ref S.length) (S ++ [handO gs (0 : Nat) 0 c 0]) ∧ ∀ g ∈ gs, 0 ≤ g := by
  have cut : ∃ ms : List Int, cutD (ns.map D.int) none (some 63) = ms.map D.int := ⟨(ns.drop 0).take (min 63 ns.length - 0), by simp [cutD, cutAt]⟩
  obtain ⟨ms, hm⟩ := cut
  refine ⟨ms.map fun i => if i < 0 then -i else i, 1 + (ms.length : Int), ?_, fun g hg => ?_⟩
  · have lc : lcGo (fun _ => True) (gNameD 2) tYesD (eAbs (eInt (eVar 2))) [.val (.lst (ns.map D.int)), .un, .un] (ms.map D.int) S = .ok ((ms.map fun i => if i < 0 then -i else i).map D.int) S := by
      refine lcGo_pure trivial (by simp) fun i x y hx hy => ?_
      obtain ⟨k, e1, rfl⟩ := get_map hx
      obtain ⟨k2, e2, rfl⟩ := get_map hy
      obtain ⟨k3, e3, rfl⟩ := get_map e2
      rw [e1] at e3
      cases e3
      exact ⟨[.val (.lst (ns.map D.int)), .un, .val (.int k)], by simp [gNameD], by simp [tYesD], by simp⟩
    simp only [List.map_map] at lc
    simp [handF, fnD, hm, wkOf, wipeD, lc, handO, nLc_ap]
  · simp only [List.mem_map] at hg
    obtain ⟨i, _, rfl⟩ := hg
    split <;> omega
end Dn
namespace Dn
open PySem
theorem lcGo_new {ok : Store → Prop} {g : DG} {t : DT} {e : DE} {r : Rho} : ∀ (xs : List D) (os : List SO) (S : Store), os.length = xs.length → (∀ k, k ≤ os.length → ok (S ++ os.take k)) →
    (∀ (i : Nat) (x : D) (o : SO), xs[i]? = some x → os[i]? = some o → ∃ r', g x r (S ++ os.take i) = some r' ∧ t r' (S ++ os.take i) = .ok true (S ++ os.take i) ∧ e r' (S ++ os.take i) = .ok (.ref (S.length + i)) ((S ++ os.take i) ++ [o])) →
    lcGo ok g t e r xs S = .ok ((List.range xs.length).map fun i => D.ref (S.length + i)) (S ++ os)
  | [], os, S, hl, hok, h => by
    have : os = [] := by cases os with
      | nil => rfl
      | cons _ _ => simp at hl
    subst this
    have := hok 0 (Nat.le_refl _)
    simp at this
    simp [lcGo, this]
  | x :: xs, os, S, hl, hok, h => by
    cases os with
    | nil => simp at hl
    | cons o os =>
      obtain ⟨r', h1, h2, h3⟩ := h 0 x o rfl rfl
      have h0 := hok 0 (Nat.zero_le _)
      simp at h0 h1 h2 h3
      have ih := lcGo_new (ok := ok) (g := g) (t := t) (e := e) (r := r) xs os (S ++ [o]) (by simpa using hl) (fun k hk => by simpa using hok (k + 1) (by simpa using hk)) fun i a b ha hb => by
        have := h (i + 1) a b (by simpa using ha) (by simpa using hb)
        simpa [Nat.add_assoc, Nat.add_comm 1 i] using this
      simp [lcGo, h0, h1, h2, h3, ih, List.range_succ_eq_map, Function.comp_def, Nat.add_assoc, Nat.add_comm 1]
/-- a loop whose turns keep P -/
theorem forGo_inv {ok : Store → Prop} {g : DG} {b : DS} (P : Nat → Rho → Store → Prop) : ∀ (xs : List D) (k : Nat) (r : Rho) (S : Store), P k r S → (∀ i r S, P i r S → ok S) →
    (∀ (i : Nat) (x : D) (r : Rho) (S : Store), xs[i]? = some x → P (k + i) r S → ∃ r', g x r S = some r' ∧ ∃ r2 S2, (b r' S = .next r2 S2 ∨ b r' S = .cont r2 S2) ∧ P (k + i + 1) r2 S2) →
    ∃ r' S', forGo ok g b xs r S = .next r' S' ∧ P (k + xs.length) r' S'
  | [], k, r, S, h, hok, _ => ⟨r, S, by simp [forGo, hok k r S h], h⟩
  | x :: xs, k, r, S, h, hok, st => by
    obtain ⟨r', h1, r2, S2, h2, h3⟩ := st 0 x r S rfl h
    obtain ⟨r3, S3, h4, h5⟩ := forGo_inv P xs (k + 1) r2 S2 (by simpa using h3) hok fun i y r S hy hp => by
      have := st (i + 1) y r S (by simpa using hy) (by simpa [Nat.add_assoc, Nat.add_comm 1] using hp)
      simpa [Nat.add_assoc, Nat.add_comm 1] using this
    refine ⟨r3, S3, ?_, by simpa [Nat.add_assoc, Nat.add_comm 1] using h5⟩
    rcases h2 with h2 | h2 <;> simp [forGo, hok k r S h, h1, h2, h4]
theorem rOk_nat {n : Nat} (h : n ≤ 1000000) : rOk (n : Int) = true := by
  simp only [rOk, Bool.and_eq_true, decide_eq_true_eq]
  constructor
  · have : (-(2 ^ 62) : Int) ≤ 0 := by decide
    omega
  · have : (1000001 : Int) ≤ 2 ^ 62 := by decide
    omega
theorem le_line {n : Nat} (h : n ≤ 1000000) : (n : Int) ≤ (sizeLine : Nat) := Int.ofNat_le.mpr (Nat.le_trans h (by rw [sizeLine_val]; omega))
theorem iRange1_at {a : DE} {r : Rho} {S S' : Store} {j : Int} (h : rOk j = true) (h2 : j ≤ (sizeLine : Nat)) (e : a r S = .ok (.int j) S') : iRange1 a r S = .ok (wkS (rangeD 0 j)) S' := by
  rw [iRange1_ap, e, Rs.bind_ok]
  dsimp only
  rw [if_pos (by rw [Bool.and_eq_true]; exact ⟨h, decide_eq_true h2⟩)]
theorem iRange1_nat {a : DE} {r : Rho} {S S' : Store} {n : Nat} (h : n ≤ 1000000) (e : a r S = .ok (.int n) S') : iRange1 a r S = .ok (wkS (rangeD 0 n)) S' := iRange1_at (rOk_nat h) (le_line h) e
theorem rangeD_nat (n : Nat) : rangeD 0 n = (List.range n).map fun (i : Nat) => D.int i := by simp [rangeD]
/-! ### steps, one after another -/
section
variable {r r' : Rho} {S S' S2 : Store} {a b : DS} {e f : DE} {t : DT} {v w : D} {xs : List D} {as : DA} {m : Fn}
theorem seq_next (h : a r S = .next r' S') : sSeq a b r S = b r' S' := by rw [sSeq_ap, h, Sr.bind_next]
theorem seq_ret (h : a r S = .ret v r' S') : sSeq a b r S = .ret v r' S' := by rw [sSeq_ap, h, Sr.bind_ret]
theorem if_t (h : t r S = .ok true S') : sIf t a b r S = a r S' := by rw [sIf_ap, h, Rs.toS_ok, if_pos rfl]
theorem if_f (h : t r S = .ok false S') : sIf t a b r S = b r S' := by rw [sIf_ap, h, Rs.toS_ok, if_neg Bool.false_ne_true]
theorem drop_at (h : e r S = .ok v S') : sDrop e r S = .next r S' := by rw [sDrop_ap, h, Rs.toS_ok]
theorem ret_at (h : e r S = .ok v S') : sRet e r S = .ret v r S' := by rw [sRet_ap, h, Rs.toS_ok]
theorem set_at {i : Nat} (h : e r S = .ok v S') (hi : i < r.length) : sSet i e r S = .next (r.set i (.val v)) S' := by rw [sSet_ap, h, Rs.toS_ok, if_pos hi]
theorem call_at (h : as r S = .ok xs S') (k : m xs S' = .ok v S2) : eCall m as r S = .ok v S2 := by rw [eCall_ap, h, Rs.bind_ok, k]
theorem new_at (h : as r S = .ok xs S') : eNew as r S = .ok (.ref S'.length) (S' ++ [.lst xs]) := by rw [eNew_ap, h, Rs.bind_ok]
theorem frz_at (h : as r S = .ok xs S') : eFrz as r S = .ok (.lst xs) S' := by rw [eFrz_ap, h, Rs.bind_ok]
theorem cons_at (h : e r S = .ok v S') (k : as r S' = .ok xs S2) : aCons e as r S = .ok (v :: xs) S2 := by rw [aCons_ap, h, Rs.bind_ok, k, Rs.bind_ok]
theorem nil_at : aNil r S = .ok [] S := rfl
theorem op_at {f : Store → D → D → Option D} {e1 e2 : DE} {x y z : D} (h1 : e1 r S = .ok x S') (h2 : e2 r S' = .ok y S2) (h3 : f S2 x y = some z) : eOp f e1 e2 r S = .ok z S2 := by rw [eOp_ap, h1, Rs.bind_ok, h2, Rs.bind_ok, h3, Rs.ofO_some]
theorem meth_at {c mn : Str} {o : DE} {l : Nat} {fs : List (Str × D)} (h1 : o r S = .ok (.ref l) S') (h2 : S'[l]? = some (.ins c fs)) (h3 : fs.lookup mn = none) (h4 : as r S' = .ok xs S2) : eMeth c mn m o as r S = m (.ref l :: xs) S2 := by
  rw [eMeth_ap, h1, Rs.bind_ok]
  dsimp only
  rw [h2]
  dsimp only
  rw [if_pos ⟨rfl, h3⟩, h4, Rs.bind_ok]
theorem make_at {c : Str} {S3 : Store} (h : as r S = .ok xs S') (k : m (.ref S'.length :: xs) (S' ++ [.ins c []]) = .ok .non S3) : eMake c m as r S = .ok (.ref S'.length) S3 := by rw [eMake_ap, h, Rs.bind_ok, k, Rs.bind_ok]
theorem lc_at {its : DI} {g : DG} {vs : List Nat} {wk : Wk} {ys : List D} (h : its r S = .ok wk S') (k : lcGo wk.ok g t e (wipeD r vs) wk.xs S' = .ok ys S2) : nLc its g t e vs r S = .ok ys S2 := by
  rw [nLc_ap, h, Rs.bind_ok, k]
theorem fld_at {cs : List Str} {c f : Str} {o : DE} {l : Nat} {fs : List (Str × D)} (h1 : o r S = .ok (.ref l) S') (h2 : S'[l]? = some (.ins c fs)) (hc : c ∈ cs) (h3 : fs.lookup f = some v) : eFld cs f o r S = .ok v S' := by
  rw [eFld_ap, h1, Rs.bind_ok]
  dsimp only
  rw [h2]
  dsimp only
  rw [if_pos hc, h3, Rs.ofO_some]
theorem put_at {o k : DE} {S3 : Store} {l m : Nat} {j : Int} {ys : List D} (h1 : e r S = .ok v S') (h2 : o r S' = .ok (.ref l) S2) (h3 : k r S2 = .ok (.int j) S3) (h4 : S3[l]? = some (.lst ys)) (h5 : place ys.length j = some m) : sPutR o k e r S = .next r (S3.set l (.lst (ys.set m v))) := by
  rw [sPutR_ap, h1, Rs.toS_ok, h2, Rs.toS_ok, h3, Rs.toS_ok]
  dsimp only
  rw [h4]
  dsimp only
  rw [h5]
theorem sfld_at {cs : List Str} {c f : Str} {o : DE} {l : Nat} {fs : List (Str × D)} (h1 : e r S = .ok v S') (h2 : o r S' = .ok (.ref l) S2) (h3 : S2[l]? = some (.ins c fs)) (h4 : c ∈ cs) (h5 : fs.length < 1000) : sFldD cs f o e r S = .next r (S2.set l (.ins c (putFD f v fs))) := by
  rw [sFldD_ap, h1, Rs.toS_ok, h2, Rs.toS_ok]
  dsimp only
  rw [h3]
  dsimp only
  rw [if_pos ⟨h4, h5⟩]
theorem var_at {i : Nat} {d : D} (h : r[i]? = some (.val d)) : eVar i r S = .ok d S := by rw [eVar_ap, h]
theorem app_at {o : DE} {l : Nat} {ys zs : List D} (h1 : o r S = .ok (.ref l) S') (h2 : S'[l]? = some (.lst ys)) (h3 : e r S' = .ok v S2) (h4 : S2[l]? = some (.lst zs)) (h5 : zs.length < sizeLine) : eAppR o e r S = .ok .non (S2.set l (.lst (zs ++ [v]))) := by
  rw [eAppR_ap, h1, Rs.bind_ok]
  dsimp only
  rw [h2]
  dsimp only
  rw [h3, Rs.bind_ok, h4]
  dsimp only
  rw [if_pos h5]
theorem fnD_next {np n : Nat} {b : DS} {ds : List D} {S S2 : Store} {r : Rho} (h : ds.length = np) (e : b (ds.map Sl.val ++ List.replicate (n - np) Sl.un) S = .next r S2) : fnD np n b ds S = .ok .non S2 := by
  unfold fnD
  rw [if_pos h, e]
theorem fnD_ret {np n : Nat} {b : DS} {ds : List D} {S S2 : Store} {r : Rho} {d : D} (h : ds.length = np) (e : b (ds.map Sl.val ++ List.replicate (n - np) Sl.un) S = .ret d r S2) : fnD np n b ds S = .ok d S2 := by
  unfold fnD
  rw [if_pos h, e]
end
end Dn

end
section
set_option Elab.async false
set_option linter.all false
set_option maxRecDepth 100000
set_option maxHeartbeats 4000000
/-! Tools for the plain laws: no machine here. -/
namespace Dn
open PySem
/-- a def's end by its body's -/
def Sr.fin : Sr → Rs D
  | .next _ S => .ok .non S
  | .ret d _ S => .ok d S
  | .exc c fs _ S => .exc c fs S
  | _ => .bad
@[simp] theorem fin_next (r : Rho) (S : Store) : (Sr.next r S).fin = .ok .non S := nr rfl
@[simp] theorem fin_ret (d : D) (r : Rho) (S : Store) : (Sr.ret d r S).fin = .ok d S := nr rfl
@[simp] theorem fin_exc (c : Str) (fs : List (Str × D)) (r : Rho) (S : Store) : (Sr.exc c fs r S).fin = .exc c fs S := nr rfl
@[simp] theorem fin_bad : Sr.bad.fin = .bad := nr rfl
theorem fnD_fin (np n : Nat) (b : DS) (ds : List D) (S : Store) : fnD np n b ds S = if ds.length = np then (b (ds.map Sl.val ++ List.replicate (n - np) Sl.un) S).fin else .bad := by
  unfold fnD
  split
  · cases h2 : b (ds.map Sl.val ++ List.replicate (n - np) Sl.un) S <;> rfl
  · rfl
/-- a whole number between two others -/
def wi (x : D) (a b : Int) : Bool := match x with
  | .int i => decide (a ≤ i) && decide (i ≤ b)
  | _ => false
@[simp] theorem wi_int (i a b : Int) : wi (.int i) a b = (decide (a ≤ i) && decide (i ≤ b)) := nr rfl
theorem wi_t {x : D} {a b : Int} (h : wi x a b = true) : ∃ i, x = .int i ∧ a ≤ i ∧ i ≤ b := by
  cases x with
  | int i => simp [wi] at h; exact ⟨i, rfl, h⟩
  | _ => cases h
/-- the number -/
def D.i : D → Int
  | .int i => i
  | _ => 0
@[simp] theorem i_int (i : Int) : (D.int i).i = i := nr rfl
mutual
/-- no object of the text's own within -/
def D.dt : D → Bool
  | .tup xs => D.dts xs
  | .lst xs => D.dts xs
  | .ref _ => false
  | .cls _ => false
  | .fn _ => false
  | _ => true
def D.dts : List D → Bool
  | [] => true
  | x :: xs => x.dt && D.dts xs
end
@[simp] theorem dt_tup (xs : List D) : (D.tup xs).dt = D.dts xs := rfl
@[simp] theorem dt_lst (xs : List D) : (D.lst xs).dt = D.dts xs := rfl
@[simp] theorem dts_cons (x : D) (xs : List D) : D.dts (x :: xs) = (x.dt && D.dts xs) := rfl
@[simp] theorem dts_nil : D.dts [] = true := rfl
theorem dts_mem {xs : List D} (h : D.dts xs = true) {x : D} (hx : x ∈ xs) : x.dt = true := by
  induction xs with
  | nil => cases hx
  | cons y ys ih =>
    simp at h
    rcases List.mem_cons.mp hx with e | e
    · rw [e]; exact h.1
    · exact ih h.2 e
theorem ty_dt {x : D} (h : x.dt = true) (S : Store) : ∃ t, tyName S x = some t := by
  cases x <;> first | exact ⟨_, rfl⟩ | (simp [D.dt] at h)
@[simp] theorem wkOf_tup (S : Store) (xs : List D) : wkOf S (.tup xs) = some (wkS xs) := nr rfl
@[simp] theorem wkOf_lst (S : Store) (xs : List D) : wkOf S (.lst xs) = some (wkS xs) := nr rfl
@[simp] theorem wkL_lst (S : Store) (xs : List D) : wkL S (.lst xs) = some (wkS xs) := nr rfl
@[simp] theorem tyName_non (S : Store) : tyName S .non = some "NoneType" := nr rfl
@[simp] theorem tyName_bl (S : Store) (b : Bool) : tyName S (.bl b) = some "bool" := nr rfl
@[simp] theorem tyName_int (S : Store) (i : Int) : tyName S (.int i) = some "int" := nr rfl
@[simp] theorem tyName_str (S : Store) (z : Str) : tyName S (.str z) = some "str" := nr rfl
@[simp] theorem tyName_tup (S : Store) (xs : List D) : tyName S (.tup xs) = some "tuple" := nr rfl
@[simp] theorem tyName_lst (S : Store) (xs : List D) : tyName S (.lst xs) = some "list" := nr rfl
/-! ### comprehensions that change nothing -/
theorem lcGo_fm {ok : Store → Prop} {g : DG} {t : DT} {e : DE} {r : Rho} {S : Store} {p : D → Bool} {f : D → D} (hok : ok S) : ∀ {xs : List D}, (∀ x ∈ xs, ∃ r', g x r S = some r' ∧ t r' S = .ok (p x) S ∧ (p x = true → e r' S = .ok (f x) S)) → lcGo ok g t e r xs S = .ok ((xs.filter p).map f) S
  | [], _ => by simp [lcGo, hok]
  | x :: xs, h => by
    obtain ⟨r', h1, h2, h3⟩ := h x (List.mem_cons_self ..)
    have ih := lcGo_fm hok (xs := xs) fun y hy => h y (List.mem_cons_of_mem _ hy)
    cases q : p x with
    | true => simp [lcGo, hok, h1, h2, q, h3 q, ih]
    | false => simp [lcGo, hok, h1, h2, q, ih]
theorem lcGo_map {ok : Store → Prop} {g : DG} {e : DE} {r : Rho} {S : Store} {f : D → D} (hok : ok S) {xs : List D} (h : ∀ x ∈ xs, ∃ r', g x r S = some r' ∧ e r' S = .ok (f x) S) : lcGo ok g tYesD e r xs S = .ok (xs.map f) S := by
  have := lcGo_fm (t := tYesD) (e := e) (g := g) (r := r) (p := fun _ => true) (f := f) hok (xs := xs) fun x hx => by
    obtain ⟨r', h1, h2⟩ := h x hx
    exact ⟨r', h1, rfl, fun _ => h2⟩
  rw [List.filter_eq_self.mpr (fun _ _ => rfl)] at this
  exact this
@[simp] theorem boolsOf_map {a : Type} (p : a → Bool) (xs : List a) : boolsOf (xs.map fun x => D.bl (p x)) = some (xs.map p) := by
  induction xs with
  | nil => rfl
  | cons x xs ih => simp [boolsOf, ih]
@[simp] theorem intsOf_map {a : Type} (p : a → Int) (xs : List a) : intsOf (xs.map fun x => D.int (p x)) = some (xs.map p) := by
  induction xs with
  | nil => rfl
  | cons x xs ih => simp [intsOf, ih]
/-- all([.. for x in xs]) -/
theorem all_lc {src : DE} {e : DE} {r : Rho} {S : Store} {xs : List D} {p : D → Bool} {k : Nat} (h : iSeqD src r S = .ok (wkS xs) S) (hk : k < r.length) (he : ∀ x ∈ xs, e ((r.set k .un).set k (.val x)) S = .ok (.bl (p x)) S) :
    eAll (lE (eFrz (nLc (iSeqD src) (gNameD k) tYesD e [k]))) r S = .ok (.bl (xs.all p)) S := by
  have := lcGo_map (ok := (wkS xs).ok) (g := gNameD k) (e := e) (r := r.set k .un) (S := S) (f := fun x => .bl (p x)) trivial (xs := xs) fun x hx => ⟨_, by simp [gNameD, hk], he x hx⟩
  unfold eAll
  simp only [eL1_ap, lE_ap, eFrz_ap, nLc_ap, h, Rs.bind_ok, wipeD, wkS_xs, this]
  simp
/-! ### tests pushed outwards -/
section
variable {a b : Type} {c : Prop} [Decidable c]
@[simp] theorem ite_bind (x y : Rs a) (f : a → Store → Rs b) : (if c then x else y).bind f = if c then x.bind f else y.bind f := by split <;> rfl
@[simp] theorem ite_toS (x y : Rs a) (r : Rho) (f : a → Store → Sr) : (if c then x else y).toS r f = if c then x.toS r f else y.toS r f := by split <;> rfl
@[simp] theorem ite_sbind (x y : Sr) (f : Rho → Store → Sr) : (if c then x else y).bind f = if c then x.bind f else y.bind f := by split <;> rfl
@[simp] theorem ite_fin (x y : Sr) : (if c then x else y).fin = if c then x.fin else y.fin := by split <;> rfl
@[simp] theorem ite_ok (x y : a) (S : Store) : (if c then Rs.ok x S else Rs.ok y S) = .ok (if c then x else y) S := by split <;> rfl
@[simp] theorem ite_bl (x y : Bool) : (if c then D.bl x else D.bl y) = .bl (if c then x else y) := by split <;> rfl
@[simp] theorem ite_di (x y : Int) : (if c then D.int x else D.int y) = .int (if c then x else y) := by split <;> rfl
end
theorem iRange3_at {a b c : DE} {r : Rho} {S S1 S2 S3 : Store} {i j k : Int} {w : Wk} (h1 : a r S = .ok (.int i) S1) (h2 : b r S1 = .ok (.int j) S2) (h3 : c r S2 = .ok (.int k) S3) (h : rg3 i j k = some w) : iRange3 a b c r S = .ok w S3 := by
  unfold iRange3
  rw [h1, Rs.bind_ok, h2, Rs.bind_ok, h3, Rs.bind_ok]
  show Rs.ofO (rg3 i j k) S3 = _
  rw [h, Rs.ofO_some]
/-! ### written places -/
section
variable {a b c d e f : D} {l : List D}
theorem atD_at {xs : List D} {i : Nat} (h : i < xs.length) : atD xs (i : Int) = xs[i]? := by
  simp [atD, place, h]
@[simp] theorem atD_0 : atD (a :: l) 0 = some a := atD_at (i := 0) (by simp)
@[simp] theorem atD_1 : atD (a :: b :: l) 1 = some b := atD_at (i := 1) (by simp)
@[simp] theorem atD_2 : atD (a :: b :: c :: l) 2 = some c := atD_at (i := 2) (by simp)
@[simp] theorem atD_3 : atD (a :: b :: c :: d :: l) 3 = some d := atD_at (i := 3) (by simp)
@[simp] theorem atD_4 : atD (a :: b :: c :: d :: e :: l) 4 = some e := atD_at (i := 4) (by simp)
end
end Dn

end
section
set_option Elab.async false
set_option linter.all false
set_option maxRecDepth 100000
set_option maxHeartbeats 4000000
/-! Tools: whole numbers in lists, sorted. -/
namespace Dn
open PySem
def leI (a b : Int) : Bool := !decide (b < a)
theorem leI_iff {a b : Int} : leI a b = true ↔ a ≤ b := by simp [leI]
theorem sortOk_ints (fs : List Int) : sortOk (fs.map D.int) = true := by
  unfold sortOk aliker
  simp only [Bool.and_eq_true, List.all_eq_true, Bool.or_eq_true, List.mem_map]
  refine ⟨⟨⟨?_, ?_⟩, ?_⟩, .inr ?_⟩
  · rintro _ ⟨a, _, rfl⟩
    rfl
  · rintro _ ⟨a, _, rfl⟩ _ ⟨b, _, rfl⟩
    rfl
  · rintro _ ⟨a, _, rfl⟩
    rfl
  · rintro _ ⟨a, _, rfl⟩
    rfl
theorem sortD_ints (fs : List Int) : sortD (fs.map D.int) = (fs.mergeSort leI).map D.int := by
  unfold sortD
  exact (PySem.W.sort_maps D.int fun a _ b _ => by
    show leI a b = !PySem.W.dataLt (D.int b).P (D.int a).P
    show leI a b = !PySem.W.dataLt (.int b) (.int a)
    rw [PySem.W.dataLt_int]
    rfl).symm
theorem sorted_ints (fs : List Int) : (fs.mergeSort leI).Pairwise (· ≤ ·) := by
  have := List.pairwise_mergeSort (le := leI) (fun a b c h1 h2 => by rw [leI_iff] at *; omega) (fun a b => by
    cases h : leI a b with
    | true => rfl
    | false =>
      have : ¬ a ≤ b := fun z => by rw [← leI_iff, h] at z; cases z
      simp only [Bool.false_or]
      rw [leI_iff]
      omega) fs
  exact this.imp fun h => leI_iff.mp h
theorem asc_ints {fs : List Int} (h : fs.Nodup) : (fs.mergeSort leI).Pairwise (· < ·) := by
  have h1 := sorted_ints fs
  have h2 : (fs.mergeSort leI).Nodup := (List.mergeSort_perm fs leI).nodup_iff.mpr h
  exact (h1.and h2).imp fun ⟨a, b⟩ => by omega
@[simp] theorem pls_ints (k : Nat) (fs : List Int) : D.pls k (fs.map D.int) = true := by
  induction fs with
  | nil => cases k <;> rfl
  | cons f fs ih =>
    cases k <;> simp [D.pls, D.pl, ih]
@[simp] theorem pl_int (k : Nat) (i : Int) : D.pl k (.int i) = true := by cases k <;> rfl
theorem anyI_eq (fs : List Int) (o : Int) : ((fs.map D.int).any fun z => eqD z (.int o)) = decide (o ∈ fs) := by
  induction fs with
  | nil => rfl
  | cons f fs ih =>
    rw [List.map_cons, List.any_cons, ih]
    have : eqD (.int f) (.int o) = decide (o = f) := by
      show (f == o) = _
      rw [Bool.eq_iff_iff]
      simp
      exact ⟨fun h => h.symm, fun h => h.symm⟩
    rw [this, Bool.eq_iff_iff]
    simp
theorem dts_ints (fs : List Int) : D.dts (fs.map D.int) = true := by
  induction fs with
  | nil => rfl
  | cons f fs ih => simp [ih, D.dt]
/-- pop, len and the like of sorted ones -/
theorem len_sorted (fs : List Int) : (fs.mergeSort leI).length = fs.length := List.length_mergeSort fs
theorem mem_sorted {fs : List Int} {x : Int} : x ∈ fs.mergeSort leI ↔ x ∈ fs := List.mem_mergeSort
end Dn

end
section
set_option Elab.async false
set_option linter.all false
set_option maxRecDepth 100000
set_option maxHeartbeats 4000000
namespace Dn
open PySem
theorem place_last (n : Nat) : place (n + 1) (-1) = some n := by
  have a : ¬ (0 : Int) ≤ -1 := by omega
  have b : -((n + 1 : Nat) : Int) ≤ -1 := by omega
  have c : (-1 + ((n + 1 : Nat) : Int)).toNat = n := by omega
  rw [place, if_neg a, if_pos b, c]
/-- xs[-1] -/
theorem atD_last (xs : List D) (x : D) : atD (xs ++ [x]) (-1) = some x := by
  have l : (xs ++ [x]).length = xs.length + 1 := by simp
  rw [atD, l, place_last, Option.bind_some]
  simp
abbrev Key := Int × Int
def keyD (k : Key) : D := .tup [.int k.1, .int k.2]
/-! ### keys: their order -/
def klt (a b : Key) : Bool := decide (a.1 < b.1) || (decide (a.1 = b.1) && decide (a.2 < b.2))
theorem klt_iff {a b : Key} : klt a b = true ↔ a.1 < b.1 ∨ (a.1 = b.1 ∧ a.2 < b.2) := by simp [klt]
theorem lt_key (a b : Key) : ltD (keyD a) (keyD b) = klt a b := by
  have al : ∀ i j : Int, PySem.W.alike (.int i) (.int j) = true := fun _ _ => rfl
  have eq : ∀ i j : Int, PyData.eqv (.int i) (.int j) = (i == j) := fun _ _ => rfl
  show PySem.W.dataLt (.tuple [.int a.1, .int a.2]) (.tuple [.int b.1, .int b.2]) = _
  rw [PySem.W.dataLt_tuple]
  by_cases h : a.1 = b.1
  · rw [PySem.W.dataLt_all_yes (al _ _) (by rw [eq]; simp [h])]
    by_cases h2 : a.2 = b.2
    · rw [PySem.W.dataLt_all_yes (al _ _) (by rw [eq]; simp [h2])]
      have : klt a b = false := by
        cases q : klt a b with
        | false => rfl
        | true => rw [klt_iff] at q; omega
      rw [this]
      rfl
    · rw [PySem.W.dataLt_all_no (al _ _) (by rw [eq]; simp [h2]), PySem.W.dataLt_int]
      simp [klt, h]
  · rw [PySem.W.dataLt_all_no (al _ _) (by rw [eq]; simp [h]), PySem.W.dataLt_int]
    simp [klt, h]
theorem ltOk_key (a b : Key) : ltOk (keyD a) (keyD b) = true := by
  simp [ltOk, keyD, D.pl, D.pls, D.P, D.Ps, PySem.W.alike, PySem.W.alikeAll]
theorem cmpLt_key (a b : Key) : cmpLt (keyD a) (keyD b) = some (klt a b) := by
  simp only [cmpLt, ltOk_key, if_true, lt_key]
theorem sortOk_key (r : List Key) : sortOk (r.map keyD) = true := by
  unfold sortOk aliker
  simp only [Bool.and_eq_true, List.all_eq_true, Bool.or_eq_true, List.mem_map]
  refine ⟨⟨⟨?_, ?_⟩, ?_⟩, .inl ?_⟩
  · rintro _ ⟨a, _, rfl⟩
    simp [keyD, D.pl, D.pls]
  · rintro _ ⟨a, _, rfl⟩ _ ⟨b, _, rfl⟩
    simp [keyD, D.P, D.Ps, PySem.W.alike, PySem.W.alikeAll]
  · rintro _ ⟨a, _, rfl⟩
    rfl
  · rintro _ ⟨a, _, rfl⟩
    rfl
/-- a key put into its place -/
def insK : List Key → Key → List Key
  | [], k => [k]
  | a :: r, k => if klt a k then a :: insK r k else k :: a :: r
def Srt (r : List Key) : Prop := r.Pairwise fun a b => klt a b = true
theorem klt_trans {a b c : Key} (h : klt a b = true) (k : klt b c = true) : klt a c = true := by
  rw [klt_iff] at *
  omega
theorem ins_perm (r : List Key) (k : Key) : (insK r k).Perm (r ++ [k]) := by
  induction r with
  | nil => exact List.Perm.refl _
  | cons a r ih =>
    unfold insK
    split
    · exact List.Perm.cons a ih
    · exact (List.perm_append_comm (l₁ := [k]) (l₂ := a :: r))
theorem ins_srt {r : List Key} {k : Key} (h : Srt r) (hk : ∀ a ∈ r, a.2 ≠ k.2) : Srt (insK r k) := by
  induction r with
  | nil => exact List.pairwise_singleton _ _
  | cons a r ih =>
    obtain ⟨h1, h2⟩ := List.pairwise_cons.mp h
    unfold insK
    split
    · rename_i hak
      refine List.pairwise_cons.mpr ⟨fun b hb => ?_, ih h2 fun b hb => hk b (List.mem_cons_of_mem _ hb)⟩
      have := (ins_perm r k).mem_iff.mp hb
      rcases List.mem_append.mp this with q | q
      · exact h1 b q
      · have : b = k := by simpa using q
        rw [this]; exact hak
    · rename_i hak
      have hka : klt k a = true := by
        have hne := hk a (List.mem_cons_self ..)
        rw [klt_iff] at *
        omega
      refine List.pairwise_cons.mpr ⟨fun b hb => ?_, h⟩
      rcases List.mem_cons.mp hb with q | q
      · rw [q]; exact hka
      · exact klt_trans hka (h1 b q)
def kle (a b : Key) : Bool := !klt b a
theorem sort_ins {r : List Key} {k : Key} (h : Srt r) (hk : ∀ a ∈ r, a.2 ≠ k.2) : (r ++ [k]).mergeSort kle = insK r k := by
  have tr : ∀ a b c : Key, kle a b = true → kle b c = true → kle a c = true := fun a b c h1 h2 => by
    unfold kle at *
    simp only [Bool.not_eq_true', Bool.eq_false_iff, ne_eq, klt_iff] at *
    omega
  have to : ∀ a b : Key, (kle a b || kle b a) = true := fun a b => by
    unfold kle
    cases h1 : klt b a with
    | false => rfl
    | true =>
      cases h2 : klt a b with
      | false => rfl
      | true => rw [klt_iff] at h1 h2; omega
  have s1 : ((r ++ [k]).mergeSort kle).Pairwise fun a b => kle a b = true := List.pairwise_mergeSort tr to _
  have s2 : (insK r k).Pairwise fun a b => kle a b = true := (ins_srt h hk).imp fun {a b} h => by
    unfold kle
    cases h2 : klt b a with
    | false => rfl
    | true => rw [klt_iff] at h h2; omega
  have anti : ∀ a b : Key, kle a b = true → kle b a = true → a = b := fun a b h1 h2 => by
    unfold kle at h1 h2
    simp only [Bool.not_eq_true', Bool.eq_false_iff, ne_eq, klt_iff] at h1 h2
    exact Prod.ext (by omega) (by omega)
  exact List.Perm.eq_of_pairwise (fun a b _ _ => anti a b) s1 s2 ((List.mergeSort_perm _ _).trans (ins_perm r k).symm)
theorem sortD_ins {r : List Key} {k : Key} (h : Srt r) (hk : ∀ a ∈ r, a.2 ≠ k.2) : sortD (r.map keyD ++ [keyD k]) = (insK r k).map keyD := by
  have e : r.map keyD ++ [keyD k] = (r ++ [k]).map keyD := by simp
  rw [e, ← sort_ins h hk]
  unfold sortD
  exact (PySem.W.sort_maps keyD fun a _ b _ => by
    show kle a b = !PySem.W.dataLt (keyD b).P (keyD a).P
    unfold kle
    rw [← lt_key]
    rfl).symm
/-- the law's own way -/
theorem ins_take {r : List Key} {k : Key} (h : Srt r) : r.take (r.filter fun a => klt a k).length ++ [k] ++ r.drop (r.filter fun a => klt a k).length = insK r k := by
  induction r with
  | nil => rfl
  | cons a r ih =>
    obtain ⟨h1, h2⟩ := List.pairwise_cons.mp h
    unfold insK
    cases q : klt a k with
    | true =>
      have := ih h2
      simp only [List.filter_cons, q, if_true, List.length_cons, List.take_succ_cons, List.drop_succ_cons, List.cons_append]
      rw [this]
    | false =>
      have none : (a :: r).filter (fun a => klt a k) = [] := by
        rw [List.filter_eq_nil_iff]
        intro b hb
        rcases List.mem_cons.mp hb with z | z
        · rw [z, q]; exact Bool.false_ne_true
        · intro hbk
          rw [klt_trans (h1 b z) hbk] at q
          cases q
      rw [none]
      simp
end Dn

end
section
set_option Elab.async false
set_option linter.all false
set_option maxRecDepth 100000
set_option maxHeartbeats 4000000
/-! Values that may be odd: data, dicts, an object of the text's own class. -/
namespace Dn
open PySem
theorem eIsTyI_ap (cs : List Str) (n : String) (a : DE) (r : Rho) (S : Store) : eIsTyI cs n a r S = (a r S).bind fun x S => match tyName S x with
  | some t => .ok (.bl (isTy t n)) S
  | none => match x with
    | .ref l => (match S[l]? with
      | some (.ins c _) => if c ∈ cs then .ok (.bl false) S else .bad
      | _ => .bad)
    | _ => .bad := nr rfl
@[simp] theorem eDct_ap (t : Bool) (r : Rho) (S : Store) : eDct t r S = .ok (.ref S.length) (S ++ [.dct t []]) := nr rfl
inductive Fi (c : Str) (S : Store) : D → Prop where
  | dt {x : D} (h : x.dt = true) : Fi c S x
  | dct {l : Nat} {t : Bool} {kvs : List (D × D)} (h : S[l]? = some (.dct t kvs)) : Fi c S (.ref l)
  | ins {l : Nat} {fs : List (Str × D)} (h : S[l]? = some (.ins c fs)) : Fi c S (.ref l)
def isIntD : D → Bool
  | .int _ => true
  | _ => false
def isBlD : D → Bool
  | .bl _ => true
  | _ => false
def isTupD : D → Bool
  | .tup _ => true
  | _ => false
theorem isI_int {c : Str} {S : Store} {x : D} (h : Fi c S x) {e : DE} {r : Rho} {S0 : Store} (he : e r S0 = .ok x S) :
    ∃ b, eIsTyI [c] "int" e r S0 = .ok (.bl b) S ∧ (isIntD x = true → b = true) ∧ (b = true → isIntD x = true ∨ ∃ k, x = .bl k) := by
  rw [eIsTyI_ap, he, Rs.bind_ok]
  cases h with
  | dt h => cases x <;> first | (simp [D.dt] at h; done) | simp [isTy, isIntD]
  | dct h => simp [tyName, h, isTy, isIntD]
  | ins h => simp [tyName, h, isIntD]
theorem isI_bool {c : Str} {S : Store} {x : D} (h : Fi c S x) {e : DE} {r : Rho} {S0 : Store} (he : e r S0 = .ok x S) :
    eIsTyI [c] "bool" e r S0 = .ok (.bl (isBlD x)) S := by
  rw [eIsTyI_ap, he, Rs.bind_ok]
  cases h with
  | dt h => cases x <;> first | (simp [D.dt] at h; done) | simp [isTy, isBlD]
  | dct h => simp [tyName, h, isTy, isBlD]
  | ins h => simp [tyName, h, isBlD]
theorem isI_tup {c : Str} {S : Store} {x : D} (h : Fi c S x) {e : DE} {r : Rho} {S0 : Store} (he : e r S0 = .ok x S) :
    eIsTyI [c] "tuple" e r S0 = .ok (.bl (isTupD x)) S := by
  rw [eIsTyI_ap, he, Rs.bind_ok]
  cases h with
  | dt h => cases x <;> first | (simp [D.dt] at h; done) | simp [isTy, isTupD]
  | dct h => simp [tyName, h, isTy, isTupD]
  | ins h => simp [tyName, h, isTupD]
/-- isinstance(x, int) and not isinstance(x, bool) -/
theorem isI_pure {c : Str} {S : Store} {x : D} (h : Fi c S x) {i : Nat} {r : Rho} (v : r[i]? = some (.val x)) :
    eAnd (eIsTyI [c] "int" (eVar i)) (eNot (eIsTyI [c] "bool" (eVar i))) r S = .ok (.bl (isIntD x)) S := by
  have he : eVar i r S = .ok x S := by simp [v]
  obtain ⟨b, e1, e2, e3⟩ := isI_int h he
  have e4 := isI_bool h he
  rw [eAnd_ap, e1]
  cases b with
  | false =>
    have : isIntD x = false := by
      cases q : isIntD x with
      | false => rfl
      | true => cases e2 q
    rw [this]
    simp
  | true =>
    rcases e3 rfl with q | ⟨k, rfl⟩
    · cases x <;> first | (cases q; done) | simp [e4, isIntD, isBlD]
    · simp [e4, isIntD, isBlD]
theorem Fi.app {c : Str} {S : Store} {x : D} (h : Fi c S x) (T : List SO) : Fi c (S ++ T) x := by
  cases h with
  | dt h => exact .dt h
  | dct h => exact .dct (by rw [List.getElem?_append_left (lt_of_get h)]; exact h)
  | ins h => exact .ins (by rw [List.getElem?_append_left (lt_of_get h)]; exact h)
end Dn

end
section
set_option Elab.async false
set_option linter.all false
set_option maxRecDepth 100000
set_option maxHeartbeats 4000000
namespace Pg
open PySem Dn
abbrev FI (S : Store) (x : D) : Prop := Fi "Ideal" S x
theorem is_integer_fi {S : Store} {x : D} (h : FI S x) : m_is_integer [x] S = .ok (.bl (isIntD x)) S := by
  rw [m_is_integer, fnD_fin, b_is_integer]
  have := isI_pure h (i := 0) (r := [.val x]) rfl
  show (sRet _ [.val x] S).fin = _
  rw [ret_at this]
  rfl
theorem wi_no {x : D} (h : isIntD x = false) (a b : Int) : wi x a b = false := by
  cases x <;> first | rfl | cases h
theorem int_of {x : D} (h : isIntD x = true) : ∃ i, x = .int i := by
  cases x <;> first | exact ⟨_, rfl⟩ | cases h
theorem within_fi {S : Store} {x : D} (h : FI S x) (a b : Int) : m_is_within [x, .int a, .int b] S = .ok (.bl (wi x a b)) S := by
  have e := is_integer_fi h
  rw [m_is_within, fnD_fin, b_is_within]
  cases q : isIntD x with
  | false =>
    rw [q] at e
    simp [e, wi_no q]
  | true =>
    obtain ⟨i, rfl⟩ := int_of q
    rw [q] at e
    simp [e]
theorem check_lines_fi {S : Store} {x : D} (h : FI S x) : m_check_lines [x] S = if wi x 1 12 then .ok .non S else .exc "NoLines" [] S := by
  have e := within_fi h 1 12
  rw [m_check_lines, fnD_fin, b_check_lines]
  cases q : wi x 1 12 <;> (rw [q] at e; simp [e, sRaise])
theorem is_pair_fi {S : Store} {x : D} (h : FI S x) : m_is_pair [x] S = .ok (.bl (match x with | .tup xs => decide (xs.length = 2) | _ => false)) S := by
  have e := isI_tup h (e := eVar 0) (r := [.val x]) (S0 := S) rfl
  rw [m_is_pair, fnD_fin, b_is_pair]
  show (sRet _ [.val x] S).fin = _
  cases x <;> (simp only [isTupD] at e; simp [eAnd_ap, e])
  rename_i xs
  have : ((xs.length : Int) = 2) = (xs.length = 2) := by simp; omega
  simp only [this]
def keyP (x : D) : Bool := match x with
  | .tup [a, b] => wi a (-1000000000000000000) 1000000000000000000 && (isIntD b && decide (0 ≤ b.i))
  | _ => false
theorem Fi.elem {S : Store} {a b : D} (h : FI S (.tup [a, b])) : FI S a ∧ FI S b := by
  cases h with
  | dt h => simp at h; exact ⟨.dt h.1, .dt h.2⟩
theorem is_key_fi {S : Store} {x : D} (h : FI S x) : m_is_key [x] S = .ok (.bl (keyP x)) S := by
  have e := is_pair_fi h
  rw [m_is_key, fnD_fin, b_is_key]
  by_cases q : ∃ a b, x = .tup [a, b]
  · obtain ⟨a, b, rfl⟩ := q
    obtain ⟨ha, hb⟩ := Fi.elem h
    have e1 := within_fi ha (-1000000000000000000) 1000000000000000000
    have e2 := is_integer_fi hb
    cases q1 : wi a (-1000000000000000000) 1000000000000000000 with
    | false => rw [q1] at e1; simp [e, e1, keyP, q1]
    | true =>
      rw [q1] at e1
      cases q2 : isIntD b with
      | false => rw [q2] at e2; simp [e, e1, e2, keyP, q1, q2]
      | true =>
        obtain ⟨i, rfl⟩ := int_of q2
        rw [q2] at e2
        simp [e, e1, e2, keyP, q1, q2]
  · have e' : m_is_pair [x] S = .ok (.bl false) S := by
      rw [e]
      cases x <;> try rfl
      rename_i xs
      match xs, q with
      | [], _ => rfl
      | [_], _ => rfl
      | [a, b], q => exact absurd ⟨a, b, rfl⟩ q
      | _ :: _ :: _ :: _, _ => simp
    have k : keyP x = false := by
      cases x <;> try rfl
      rename_i xs
      match xs, q with
      | [], _ => rfl
      | [_], _ => rfl
      | [a, b], q => exact absurd ⟨a, b, rfl⟩ q
      | _ :: _ :: _ :: _, _ => rfl
    simp [e', k]
theorem check_key_fi {S : Store} {x : D} (h : FI S x) : m_check_key [x] S = if keyP x then .ok .non S else .exc "NoKey" [] S := by
  have e := is_key_fi h
  rw [m_check_key, fnD_fin, b_check_key]
  cases q : keyP x <;> (rw [q] at e; simp [e, sRaise])
end Pg
namespace L06
open PySem Dn Pg
theorem law_int_fi {S : Store} {x : D} (h : FI S x) (a b : Int) : m__law_is_int [x, .int a, .int b] S = .ok (.bl (wi x a b)) S := by
  have he : eVar 0 [.val x, .val (.int a), .val (.int b)] S = .ok x S := rfl
  obtain ⟨k, e1, e2, e3⟩ := isI_int h he
  have e4 := isI_bool h he
  rw [m__law_is_int, fnD_fin, b__law_is_int]
  show (sRet _ [.val x, .val (.int a), .val (.int b)] S).fin = _
  cases k with
  | false =>
    have : isIntD x = false := by
      cases q : isIntD x with
      | false => rfl
      | true => cases e2 q
    simp [e1, wi_no this]
  | true =>
    rcases e3 rfl with q | ⟨k, rfl⟩
    · obtain ⟨i, rfl⟩ := int_of q
      simp [e1, e4, isBlD]
    · simp [e1, e4, isBlD, wi]
def keyL (x : D) : Bool := match x with
  | .tup [a, b] => wi a (-1000000000000000000) 1000000000000000000 && wi b 0 1000000000
  | _ => false
theorem pow18 : opPow (.int 10) (.int 18) = some (.int 1000000000000000000) := rfl
theorem pow9 : opPow (.int 10) (.int 9) = some (.int 1000000000) := rfl
theorem law_key_fi {S : Store} {x : D} (h : FI S x) : m__law_is_key [x] S = .ok (.bl (keyL x)) S := by
  have e := isI_tup h (e := eVar 0) (r := [.val x]) (S0 := S) rfl
  rw [m__law_is_key, fnD_fin, b__law_is_key]
  show (sSeq _ _ [.val x] S).fin = _
  cases x with
  | tup xs =>
    match xs, h with
    | [], _ => simp [e, isTupD, keyL]
    | [_], _ => simp [e, isTupD, keyL]
    | _ :: _ :: _ :: _, _ => simp [e, isTupD, keyL]; omega
    | [a, b], h =>
      obtain ⟨ha, hb⟩ := Fi.elem h
      have e1 := law_int_fi ha (-1000000000000000000) 1000000000000000000
      have e2 := law_int_fi hb 0 1000000000
      cases q1 : wi a (-1000000000000000000) 1000000000000000000 <;> (rw [q1] at e1; simp [e, isTupD, pow18, pow9, e1, e2, keyL, q1])
  | _ => simp [e, isTupD, keyL]
end L06

end
section
set_option Elab.async false
set_option linter.all false
set_option maxRecDepth 100000
set_option maxHeartbeats 4000000
namespace Pg
open PySem Dn
/-! ### the small checks -/
theorem within_ok (a b c : Int) (S : Store) : m_is_within [.int a, .int b, .int c] S = .ok (.bl (decide (b ≤ a) && decide (a ≤ c))) S := within_fi (.dt rfl) b c
theorem lines_ok {n : Int} (h1 : 1 ≤ n) (h2 : n ≤ 12) (S : Store) : m_check_lines [.int n] S = .ok .non S := by
  simp [m_check_lines, b_check_lines, fnD, within_ok, h1, h2]
/-! ### one ideal switch -/
@[simp] theorem ne_str1 : (Str.ofString "check_output" = Str.ofString "kept_keys") = False := by
  simp only [eq_iff_iff, iff_false]
  decide +kernel
def ideal (L : Nat) : SO := .ins "Ideal" [("kept_keys", .ref L)]
theorem output_ok {S : Store} {I L : Nat} {xs : List D} {j : Nat} (hI : S[I]? = some (ideal L)) (hL : S[L]? = some (.lst xs)) (hj : j < xs.length) : m_Ideal_check_output [.ref I, .int j] S = .ok .non S := by
  have h1 : (j : Int) ≤ (xs.length : Int) - 1 := by omega
  simp [m_Ideal_check_output, b_Ideal_check_output, fnD, within_ok, hI, ideal, srcOf, Src.get, hL, h1]
theorem held_ok {S : Store} {I L l : Nat} {ls : List Nat} {xs : List D} {j : Nat} (hI : S[I]? = some (ideal L)) (hL : S[L]? = some (.lst (ls.map D.ref))) (hj : ls[j]? = some l) (hl : S[l]? = some (.lst xs)) : m_Ideal_held [.ref I, .int j] S = .ok (.tup xs) S := by
  have hlt : j < ls.length := (List.getElem?_eq_some_iff.mp hj).1
  have h1 := output_ok hI hL (j := j) (by simpa using hlt)
  have h2 : atD (ls.map D.ref) (j : Int) = some (.ref l) := atD_nat (by simp [hj])
  simp [m_Ideal_held, b_Ideal_held, fnD, h1, hI, ideal, srcOf, Src.get, hL, h2, hl]
theorem let_go_ok {S : Store} {I L l : Nat} {ls : List Nat} {x : D} {xs : List D} {j : Nat} (hI : S[I]? = some (ideal L)) (hL : S[L]? = some (.lst (ls.map D.ref))) (hj : ls[j]? = some l) (hl : S[l]? = some (.lst (x :: xs))) : m_Ideal_let_go [.ref I, .int j] S = .ok x (S.set l (.lst xs)) := by
  have hlt : j < ls.length := (List.getElem?_eq_some_iff.mp hj).1
  have h1 := output_ok hI hL (j := j) (by simpa using hlt)
  have h2 : atD (ls.map D.ref) (j : Int) = some (.ref l) := atD_nat (by simp [hj])
  have h3 : ¬ ((xs.length : Int) + 1 = 0) := by omega
  have h4 : place (xs.length + 1) 0 = some 0 := place_nat (i := 0) (by omega)
  simp [m_Ideal_let_go, b_Ideal_let_go, fnD, h1, hI, ideal, srcOf, Src.get, hL, h2, hl, h3, h4]
theorem init_lc {S : Store} {I n : Nat} : lcGo (fun _ => True) (gNameD 2) tYesD (eNew (nLst aNil)) [.val (.ref I), .val (.int n), .un] (rangeD 0 n) S = .ok ((List.range n).map fun i => D.ref (S.length + i)) (S ++ List.replicate n (.lst [])) := by
  have hlen : (rangeD 0 (n : Int)).length = n := by simp [rangeD]
  have := lcGo_new (ok := fun _ => True) (g := gNameD 2) (t := tYesD) (e := eNew (nLst aNil)) (r := [.val (.ref I), .val (.int n), .un]) (rangeD 0 n) (List.replicate n (.lst [])) S (by simp [hlen]) (fun _ _ => trivial) fun i x o hx ho => by
    have hi : i < n := by
      have := (List.getElem?_eq_some_iff.mp hx).1
      rwa [hlen] at this
    have ho' : o = .lst [] := by
      rw [List.getElem?_replicate, if_pos hi] at ho
      exact (Option.some.inj ho).symm
    subst ho'
    refine ⟨[.val (.ref I), .val (.int n), .val x], by simp [gNameD], by simp [tYesD], ?_⟩
    simp
    omega
  rw [hlen] at this
  exact this
theorem init_e1 {S : Store} {I n : Nat} (h2 : n ≤ 12) : nLc (iRange1 (eVar 1)) (gNameD 2) tYesD (eNew (nLst aNil)) [2] [.val (.ref I), .val (.int n), .un] S = .ok ((List.range n).map fun i => D.ref (S.length + i)) (S ++ List.replicate n (.lst [])) := by
  have hw := iRange1_nat (a := eVar 1) (r := [.val (.ref I), .val (.int n), .un]) (S := S) (S' := S) (n := n) (by omega) rfl
  unfold nLc
  rw [hw]
  exact init_lc
theorem x1 {S : Store} {I n : Nat} (hc : m_check_lines [D.int n] S = .ok .non S) : sDrop (eCall m_check_lines (aCons (eVar 1) aNil)) [.val (.ref I), .val (.int n), .un] S = .next [.val (.ref I), .val (.int n), .un] S := by simp [hc]
theorem x2 {S S2 : Store} {I n k : Nat} {a : DE} (e1 : a [.val (.ref I), .val (.int n), .un] S = .ok (.ref k) S2) (hI2 : S2[I]? = some (.ins "Ideal" [])) :
  sFldD ["Ideal"] "kept_keys" (eVar 0) a [.val (.ref I), .val (.int n), .un] S = .next [.val (.ref I), .val (.int n), .un] (S2.set I (ideal k)) := by
  simp [e1, hI2, putFD, ideal]

theorem init_ok {S : Store} {I n : Nat} (hI : S[I]? = some (.ins "Ideal" [])) (h1 : 1 ≤ n) (h2 : n ≤ 12) :
    m_Ideal_init [.ref I, .int n] S = .ok .non ((S ++ List.replicate n (SO.lst []) ++ [SO.lst ((List.range n).map fun i => D.ref (S.length + i))]).set I (ideal (S.length + n))) := by
  have hc := lines_ok (n := n) (by omega) (by omega) S
  have hlt := lt_of_get hI
  have hI2 : (S ++ (List.replicate n (SO.lst []) ++ [SO.lst ((List.range n).map fun i => D.ref (S.length + i))]))[I]? = some (.ins "Ideal" []) := by
    rw [List.getElem?_append_left hlt]; exact hI
  have e1 := init_e1 (S := S) (I := I) h2
  have s2 := x2 (a := eNew (nLc (iRange1 (eVar 1)) (gNameD 2) tYesD (eNew (nLst aNil)) [2])) (S := S) (I := I) (n := n) (k := S.length + n) (S2 := S ++ List.replicate n (SO.lst []) ++ [SO.lst ((List.range n).map fun i => D.ref (S.length + i))]) (by
    rw [eNew_ap, e1, Rs.bind_ok]
    simp) (by rw [List.append_assoc]; exact hI2)
  have s3 : b_Ideal_init [.val (.ref I), .val (.int n), .un] S = .next [.val (.ref I), .val (.int n), .un] ((S ++ List.replicate n (SO.lst []) ++ [SO.lst ((List.range n).map fun i => D.ref (S.length + i))]).set I (ideal (S.length + n))) := by
    unfold b_Ideal_init
    rw [sSeq_ap, x1 hc, Sr.bind_next, s2]
  unfold m_Ideal_init
  exact fnD_next rfl s3
/-! ### push -/
theorem check_key_ok {k : Key} (h1 : -1000000000000000000 ≤ k.1) (h2 : k.1 ≤ 1000000000000000000) (h3 : 0 ≤ k.2) (S : Store) : m_check_key [keyD k] S = .ok .non S := by
  have := check_key_fi (S := S) (x := keyD k) (.dt rfl)
  have e : keyP (keyD k) = true := by simp [keyP, keyD, h1, h2, h3, isIntD]
  rw [e] at this
  exact this
theorem pls_ints : ∀ xs : List Int, D.pls 63 (xs.map D.int) = true
  | [] => rfl
  | x :: xs => by
    simp only [List.map_cons, D.pls, pls_ints xs, Bool.and_true, D.pl]
theorem cells_lc {ok : Store → Prop} {S : Store} {r : List Key} {p q : Rho} {i j : Nat} (hok : ok S) (hp : ∀ a : Key, gTupD 2 (gsCons (gNameD i) (gsCons (gNameD j) gsNil)) (keyD a) p S = some (q.set i (.val (.int a.1)) |>.set j (.val (.int a.2)))) (hq : j < q.length) :
    lcGo ok (gTupD 2 (gsCons (gNameD i) (gsCons (gNameD j) gsNil))) tYesD (eVar j) p (r.map keyD) S = .ok ((r.map (·.2)).map D.int) S := by
  refine lcGo_pure hok (by simp) fun m x y hx hy => ?_
  obtain ⟨a, e1, rfl⟩ := get_map hx
  obtain ⟨b, e2, rfl⟩ := get_map hy
  obtain ⟨c, e3, rfl⟩ := get_map e2
  rw [e1] at e3
  cases e3
  exact ⟨_, hp a, rfl, var_at (by simp [hq])⟩
theorem look_ne {f g : Str} {x : D} (h : (f == g) = false) : List.lookup f [(g, x)] = none := by
  rw [List.lookup_cons, h]
  rfl
theorem any_cells (r : List Key) (k : Key) : ((r.map (·.2)).map D.int).any (fun z => eqD z (.int k.2)) = r.any fun a => decide (a.2 = k.2) := by
  induction r with
  | nil => rfl
  | cons a r ih =>
    simp only [List.map_cons, List.any_cons] at ih ⊢
    rw [ih]
    congr 1
theorem push_ok {S : Store} {I L l j : Nat} {ls : List Nat} {r : List Key} {k : Key} (hI : S[I]? = some (ideal L)) (hL : S[L]? = some (.lst (ls.map D.ref))) (hj : ls[j]? = some l) (hl : S[l]? = some (.lst (r.map keyD)))
    (hs : Srt r) (hk : r.any (fun a => decide (a.2 = k.2)) = false) (h1 : -1000000000000000000 ≤ k.1) (h2 : k.1 ≤ 1000000000000000000) (h3 : 0 ≤ k.2) (hz : r.length ≤ 1000) :
    m_Ideal_push [.ref I, .int j, keyD k] S = .ok .non ((S ++ [SO.lst ((insK r k).map keyD)]).set L (SO.lst ((ls.map D.ref).set j (.ref S.length)))) := by
  have hlt : j < ls.length := (List.getElem?_eq_some_iff.mp hj).1
  have hIl := lt_of_get hI
  have hLl := lt_of_get hL
  have o1 := output_ok hI hL (j := j) (by simpa using hlt)
  have h4 : atD (ls.map D.ref) (j : Int) = some (.ref l) := atD_nat (by simp [hj])
  have hne : ∀ a ∈ r, a.2 ≠ k.2 := fun a ha e => by
    have := List.any_eq_false.mp hk a ha
    simp [e] at this
  generalize hr : ([.val (.ref I), .val (.int j), .val (keyD k), .un, .un] : Rho) = R
  have v0 : R[0]? = some (.val (.ref I)) := by rw [← hr]; rfl
  have v1 : R[1]? = some (.val (.int j)) := by rw [← hr]; rfl
  have v2 : R[2]? = some (.val (keyD k)) := by rw [← hr]; rfl
  have s1 : sDrop (eMeth "Ideal" "check_output" m_Ideal_check_output (eVar 0) (aCons (eVar 1) aNil)) R S = .next R S := by
    refine drop_at (v := .non) ?_
    rw [meth_at (var_at v0) hI (look_ne (by decide +kernel)) (cons_at (var_at v1) nil_at)]
    exact o1
  have s2 : sDrop (eCall m_check_key (aCons (eVar 2) aNil)) R S = .next R S := drop_at (call_at (cons_at (var_at v2) nil_at) (check_key_ok h1 h2 h3 S))
  have row : eIx (lE (eFld ["Ideal"] "kept_keys" (eVar 0))) (eVar 1) R S = .ok (.ref l) S := by
    rw [eIx_ap, lE_ap, fld_at (v := .ref L) (var_at v0) hI (by simp) (by simp [ideal]), Rs.bind_ok, srcOf_ref hL, Rs.ofO_some, Rs.bind_ok, var_at v1, Rs.bind_ok]
    dsimp only
    rw [get_loc hL, Option.bind_some, h4, Rs.ofO_some]
  have key1 : eIx (lE (eVar 2)) (eC (.int 1)) R S = .ok (.int k.2) S := by
    rw [eIx_ap, lE_ap, var_at v2, Rs.bind_ok]
    rfl
  have cells : eFrz (nLc (iSeqD (eIx (lE (eFld ["Ideal"] "kept_keys" (eVar 0))) (eVar 1))) (gTupD 2 (gsCons (gNameD 3) (gsCons (gNameD 4) gsNil))) tYesD (eVar 4) [3, 4]) R S = .ok (.lst ((r.map (·.2)).map D.int)) S := by
    refine frz_at (lc_at (wk := ⟨r.map keyD, fun S => S[l]? = some (.lst (r.map keyD))⟩) (S' := S) ?_ (cells_lc (q := R) hl (fun a => ?_) (by rw [← hr]; simp)))
    · rw [iSeqD_ap, row, Rs.bind_ok]
      simp [wkOf, hl]
    · rw [← hr]
      simp [wipeD, gTupD, keyD, gsCons, gsNil, gNameD]
  have s3 : sIf (tOfB (eIn false (eIx (lE (eVar 2)) (eC (.int 1))) (lE (eFrz (nLc (iSeqD (eIx (lE (eFld ["Ideal"] "kept_keys" (eVar 0))) (eVar 1))) (gTupD 2 (gsCons (gNameD 3) (gsCons (gNameD 4) gsNil))) tYesD (eVar 4) [3, 4]))))) (sRaise "KeyThere") sNext R S = .next R S := by
    rw [if_f (S' := S)]
    · rfl
    · rw [tOfB_ap, eIn_ap, key1, Rs.bind_ok, lE_ap, cells, Rs.bind_ok]
      simp only [srcOf_lst, Rs.ofO_some, Rs.bind_ok, get_cst]
      rw [if_pos (by rw [pls_ints]; rfl), any_cells, hk]
      rfl
  have s4 : sPutR (eFld ["Ideal"] "kept_keys" (eVar 0)) (eVar 1) (eNew (nSorted (lE (eOp opAdd (eIx (lE (eFld ["Ideal"] "kept_keys" (eVar 0))) (eVar 1)) (eFrz (nLst (aCons (eVar 2) aNil))))))) R S =
      .next R ((S ++ [SO.lst ((insK r k).map keyD)]).set L (SO.lst ((ls.map D.ref).set j (.ref S.length)))) := by
    have sum : eOp opAdd (eIx (lE (eFld ["Ideal"] "kept_keys" (eVar 0))) (eVar 1)) (eFrz (nLst (aCons (eVar 2) aNil))) R S = .ok (.lst (r.map keyD ++ [keyD k])) S := by
      refine op_at row (frz_at (xs := [keyD k]) ?_) ?_
      · rw [nLst_ap, cons_at (var_at v2) nil_at, Rs.bind_ok, if_pos (by rw [sizeLine_val]; simp)]
      · have hle : (r.map keyD).length + [keyD k].length ≤ sizeLine := by
          rw [sizeLine_val]
          simp only [List.length_map, List.length_cons, List.length_nil]
          omega
        show (match Dn.listOf S (.ref l), Dn.listOf S (.lst [keyD k]) with
          | some xs, some ys => if xs.length + ys.length ≤ sizeLine then some (D.lst (xs ++ ys)) else none
          | _, _ => none) = _
        have z1 : Dn.listOf S (.ref l) = some (r.map keyD) := by simp [Dn.listOf, hl]
        rw [z1]
        show (if (r.map keyD).length + [keyD k].length ≤ sizeLine then some (D.lst (r.map keyD ++ [keyD k])) else none) = _
        rw [if_pos hle]
    have srt : nSorted (lE (eOp opAdd (eIx (lE (eFld ["Ideal"] "kept_keys" (eVar 0))) (eVar 1)) (eFrz (nLst (aCons (eVar 2) aNil))))) R S = .ok ((insK r k).map keyD) S := by
      have so : sortOk (r.map keyD ++ [keyD k]) = true := by
        have := sortOk_key (r ++ [k])
        simpa using this
      rw [nSorted_ap, lE_ap, sum, Rs.bind_ok]
      simp only [srcOf_lst, Rs.ofO_some, Rs.bind_ok, get_cst, isT_cst, so, Bool.not_false, Bool.and_self, if_true]
      rw [sortD_ins hs hne]
    exact put_at (new_at srt) (fld_at (v := .ref L) (var_at v0) (by rw [List.getElem?_append_left hIl]; exact hI) (by simp) (by simp [ideal])) (var_at v1) (by rw [List.getElem?_append_left hLl]; exact hL) (place_nat (by simpa using hlt))
  unfold m_Ideal_push
  refine fnD_next (r := R) rfl ?_
  show b_Ideal_push [.val (.ref I), .val (.int j), .val (keyD k), .un, .un] S = _
  rw [hr]
  unfold b_Ideal_push
  rw [seq_next s1, seq_next s2, seq_next s3, s4]
theorem lc_filter {ok : Store → Prop} {g : DG} {t : DT} {e : DE} {p : Rho} {S : Store} {f : Key → Bool} (hok : ok S) : ∀ r : List Key, (∀ a ∈ r, ∃ r', g (keyD a) p S = some r' ∧ t r' S = .ok (f a) S ∧ e r' S = .ok (keyD a) S) →
    lcGo ok g t e p (r.map keyD) S = .ok ((r.filter f).map keyD) S
  | [], _ => by simp [lcGo, hok]
  | a :: r, h => by
    obtain ⟨r', h1, h2, h3⟩ := h a (List.mem_cons_self ..)
    have ih := lc_filter (ok := ok) (g := g) (t := t) (e := e) (p := p) (f := f) hok r fun b hb => h b (List.mem_cons_of_mem _ hb)
    cases q : f a with
    | true =>
      rw [q] at h2
      simp [lcGo, hok, h1, h2, h3, ih, List.filter_cons, q]
    | false =>
      rw [q] at h2
      simp [lcGo, hok, h1, h2, ih, List.filter_cons, q]
/-- a row of a switch -/
theorem row_at {S : Store} {I L l : Nat} {ls : List Nat} {j : Nat} {R : Rho} (hI : S[I]? = some (ideal L)) (hL : S[L]? = some (.lst (ls.map D.ref))) (hj : ls[j]? = some l) (v0 : R[0]? = some (.val (.ref I))) (v1 : R[1]? = some (.val (.int j))) :
    eIx (lE (eFld ["Ideal"] "kept_keys" (eVar 0))) (eVar 1) R S = .ok (.ref l) S := by
  have h4 : atD (ls.map D.ref) (j : Int) = some (.ref l) := atD_nat (by simp [hj])
  rw [eIx_ap, lE_ap, fld_at (v := .ref L) (var_at v0) hI (by simp) (by simp [ideal]), Rs.bind_ok, srcOf_ref hL, Rs.ofO_some, Rs.bind_ok, var_at v1, Rs.bind_ok]
  dsimp only
  rw [get_loc hL, Option.bind_some, h4, Rs.ofO_some]
theorem chk_at {S : Store} {I L : Nat} {xs : List D} {j : Nat} {R : Rho} (hI : S[I]? = some (ideal L)) (hL : S[L]? = some (.lst xs)) (hj : j < xs.length) (v0 : R[0]? = some (.val (.ref I))) (v1 : R[1]? = some (.val (.int j))) :
    sDrop (eMeth "Ideal" "check_output" m_Ideal_check_output (eVar 0) (aCons (eVar 1) aNil)) R S = .next R S := by
  refine drop_at (v := .non) ?_
  rw [meth_at (var_at v0) hI (look_ne (by decide +kernel)) (cons_at (var_at v1) nil_at)]
  exact output_ok hI hL hj
theorem push_dup {S : Store} {I L l j : Nat} {ls : List Nat} {r : List Key} {k : Key} (hI : S[I]? = some (ideal L)) (hL : S[L]? = some (.lst (ls.map D.ref))) (hj : ls[j]? = some l) (hl : S[l]? = some (.lst (r.map keyD)))
    (hk : r.any (fun a => decide (a.2 = k.2)) = true) (h1 : -1000000000000000000 ≤ k.1) (h2 : k.1 ≤ 1000000000000000000) (h3 : 0 ≤ k.2) :
    m_Ideal_push [.ref I, .int j, keyD k] S = .exc "KeyThere" [] S := by
  have hlt : j < ls.length := (List.getElem?_eq_some_iff.mp hj).1
  generalize hr : ([.val (.ref I), .val (.int j), .val (keyD k), .un, .un] : Rho) = R
  have v0 : R[0]? = some (.val (.ref I)) := by rw [← hr]; rfl
  have v1 : R[1]? = some (.val (.int j)) := by rw [← hr]; rfl
  have v2 : R[2]? = some (.val (keyD k)) := by rw [← hr]; rfl
  have s1 := chk_at hI hL (j := j) (by simpa using hlt) v0 v1
  have s2 : sDrop (eCall m_check_key (aCons (eVar 2) aNil)) R S = .next R S := drop_at (call_at (cons_at (var_at v2) nil_at) (check_key_ok h1 h2 h3 S))
  have row := row_at hI hL hj v0 v1
  have key1 : eIx (lE (eVar 2)) (eC (.int 1)) R S = .ok (.int k.2) S := by
    rw [eIx_ap, lE_ap, var_at v2, Rs.bind_ok]
    rfl
  have cells : eFrz (nLc (iSeqD (eIx (lE (eFld ["Ideal"] "kept_keys" (eVar 0))) (eVar 1))) (gTupD 2 (gsCons (gNameD 3) (gsCons (gNameD 4) gsNil))) tYesD (eVar 4) [3, 4]) R S = .ok (.lst ((r.map (·.2)).map D.int)) S := by
    refine frz_at (lc_at (wk := ⟨r.map keyD, fun S => S[l]? = some (.lst (r.map keyD))⟩) (S' := S) ?_ (cells_lc (q := R) hl (fun a => ?_) (by rw [← hr]; simp)))
    · rw [iSeqD_ap, row, Rs.bind_ok]
      simp [wkOf, hl]
    · rw [← hr]
      simp [wipeD, gTupD, keyD, gsCons, gsNil, gNameD]
  have s3 : sIf (tOfB (eIn false (eIx (lE (eVar 2)) (eC (.int 1))) (lE (eFrz (nLc (iSeqD (eIx (lE (eFld ["Ideal"] "kept_keys" (eVar 0))) (eVar 1))) (gTupD 2 (gsCons (gNameD 3) (gsCons (gNameD 4) gsNil))) tYesD (eVar 4) [3, 4]))))) (sRaise "KeyThere") sNext R S = .exc "KeyThere" [] R S := by
    rw [if_t (S' := S)]
    · rfl
    · rw [tOfB_ap, eIn_ap, key1, Rs.bind_ok, lE_ap, cells, Rs.bind_ok]
      simp only [srcOf_lst, Rs.ofO_some, Rs.bind_ok, get_cst]
      rw [if_pos (by rw [pls_ints]; rfl), any_cells, hk]
      rfl
  rw [m_Ideal_push, fnD_fin, b_Ideal_push]
  show (sSeq _ _ [.val (.ref I), .val (.int j), .val (keyD k), .un, .un] S).fin = _
  rw [hr, seq_next s1, seq_next s2, sSeq_ap, s3]
  rfl
theorem let_go_no {S : Store} {I L l : Nat} {ls : List Nat} {j : Nat} (hI : S[I]? = some (ideal L)) (hL : S[L]? = some (.lst (ls.map D.ref))) (hj : ls[j]? = some l) (hl : S[l]? = some (.lst [])) : m_Ideal_let_go [.ref I, .int j] S = .exc "NothingThere" [] S := by
  have hlt : j < ls.length := (List.getElem?_eq_some_iff.mp hj).1
  have h1 := output_ok hI hL (j := j) (by simpa using hlt)
  have h2 : atD (ls.map D.ref) (j : Int) = some (.ref l) := atD_nat (by simp [hj])
  rw [m_Ideal_let_go, fnD_fin, b_Ideal_let_go]
  simp [h1, hI, ideal, srcOf, Src.get, hL, h2, hl, sRaise]
def dueD : List D → D
  | [] => .non
  | x :: _ => x
theorem due_ok {S : Store} {I L l : Nat} {ls : List Nat} {xs : List D} {j : Nat} (hI : S[I]? = some (ideal L)) (hL : S[L]? = some (.lst (ls.map D.ref))) (hj : ls[j]? = some l) (hl : S[l]? = some (.lst xs)) : m_Ideal_due [.ref I, .int j] S = .ok (dueD xs) S := by
  have hlt : j < ls.length := (List.getElem?_eq_some_iff.mp hj).1
  have h1 := output_ok hI hL (j := j) (by simpa using hlt)
  have h2 : atD (ls.map D.ref) (j : Int) = some (.ref l) := atD_nat (by simp [hj])
  rw [m_Ideal_due, fnD_fin, b_Ideal_due]
  cases xs with
  | nil => simp [h1, hI, ideal, srcOf, Src.get, hL, h2, hl, dueD]
  | cons x xs =>
    have h3 : (0 : Int) < (xs.length : Int) + 1 := by omega
    simp [h1, hI, ideal, srcOf, Src.get, hL, h2, hl, dueD, h3]
theorem lt_count {S : Store} {R : Rho} {ok : Store → Prop} {r : List Key} {k : Key} {i q : Nat} {it : DE} (hok : ok S) (hw : iSeqD it R S = .ok ⟨r.map keyD, ok⟩ S) (hi : i < R.length) (hq : q ≠ i) (vq : R[q]? = some (.val (keyD k))) :
    eLen (lE (eFrz (nLc (iSeqD it) (gNameD i) (tOfB (eCmp (fun _ => cmpLt) (eVar i) (eVar q))) (eVar i) [i]))) R S = .ok (.int (r.filter fun a => klt a k).length) S := by
  have lc : nLc (iSeqD it) (gNameD i) (tOfB (eCmp (fun _ => cmpLt) (eVar i) (eVar q))) (eVar i) [i] R S = .ok ((r.filter fun a => klt a k).map keyD) S := by
    refine lc_at hw (lc_filter (f := fun a => klt a k) hok r fun a _ => ⟨(wipeD R [i]).set i (.val (keyD a)), ?_, ?_, ?_⟩)
    · simp [gNameD, wipeD, hi]
    · have g1 : ((wipeD R [i]).set i (.val (keyD a)))[i]? = some (.val (keyD a)) := by simp [wipeD, hi]
      have g2 : ((wipeD R [i]).set i (.val (keyD a)))[q]? = some (.val (keyD k)) := by
        rw [List.getElem?_set_ne (Ne.symm hq)]
        simp [wipeD, List.getElem?_set_ne (Ne.symm hq), vq]
      rw [tOfB_ap, eCmp_ap, var_at g1, Rs.bind_ok, var_at g2, Rs.bind_ok, cmpLt_key]
      rfl
    · have g1 : ((wipeD R [i]).set i (.val (keyD a)))[i]? = some (.val (keyD a)) := by simp [wipeD, hi]
      exact var_at g1
  rw [eLen_ap, lE_ap, frz_at lc, Rs.bind_ok, srcOf_lst, Rs.ofO_some, Rs.bind_ok, get_cst, Option.bind_some, Rs.ofO_some]
  simp
theorem ahead_ok {S : Store} {I L l : Nat} {ls : List Nat} {r : List Key} {k : Key} {j : Nat} (hI : S[I]? = some (ideal L)) (hL : S[L]? = some (.lst (ls.map D.ref))) (hj : ls[j]? = some l) (hl : S[l]? = some (.lst (r.map keyD)))
    (h1 : -1000000000000000000 ≤ k.1) (h2 : k.1 ≤ 1000000000000000000) (h3 : 0 ≤ k.2) : m_Ideal_ahead [.ref I, .int j, keyD k] S = .ok (.int (r.filter fun a => klt a k).length) S := by
  have hlt : j < ls.length := (List.getElem?_eq_some_iff.mp hj).1
  generalize hr : ([.val (.ref I), .val (.int j), .val (keyD k), .un] : Rho) = R
  have v0 : R[0]? = some (.val (.ref I)) := by rw [← hr]; rfl
  have v1 : R[1]? = some (.val (.int j)) := by rw [← hr]; rfl
  have v2 : R[2]? = some (.val (keyD k)) := by rw [← hr]; rfl
  have s1 := chk_at hI hL (j := j) (by simpa using hlt) v0 v1
  have s2 : sDrop (eCall m_check_key (aCons (eVar 2) aNil)) R S = .next R S := drop_at (call_at (cons_at (var_at v2) nil_at) (check_key_ok h1 h2 h3 S))
  have row := row_at hI hL hj v0 v1
  have cnt := lt_count (ok := fun S => S[l]? = some (.lst (r.map keyD))) (r := r) (k := k) (i := 3) (q := 2) (R := R) (S := S) (it := eIx (lE (eFld ["Ideal"] "kept_keys" (eVar 0))) (eVar 1)) hl (by
    rw [iSeqD_ap, row, Rs.bind_ok]
    simp [wkOf, hl]) (by rw [← hr]; simp) (by decide) v2
  rw [m_Ideal_ahead, fnD_fin, b_Ideal_ahead]
  show (sSeq _ _ [.val (.ref I), .val (.int j), .val (keyD k), .un] S).fin = _
  rw [hr, seq_next s1, seq_next s2, ret_at cnt]
  rfl
end Pg

end
section
set_option Elab.async false
set_option linter.all false
set_option maxRecDepth 100000
set_option maxHeartbeats 4000000
/-! the hand: drawn numbers -/
namespace L06
open PySem Dn
/-- only the hand changed -/
def Dr (h : Nat) (S S' : Store) : Prop := HandOk S' h ∧ ∃ o, S' = S.set h o
theorem Dr.trans {h : Nat} {S S1 S2 : Store} (a : Dr h S S1) (b : Dr h S1 S2) : Dr h S S2 := by
  obtain ⟨_, o, rfl⟩ := a
  obtain ⟨k, o2, rfl⟩ := b
  exact ⟨k, o2, by simp⟩
theorem Dr.refl {h : Nat} {S : Store} (k : HandOk S h) : Dr h S S := by
  obtain ⟨gs, p, d, t, s, hS, hd⟩ := k
  exact ⟨⟨gs, p, d, t, s, hS, hd⟩, _, (set_same hS).symm⟩
theorem Dr.get {h x : Nat} {S S' : Store} (d : Dr h S S') (ne : x ≠ h) : S'[x]? = S[x]? := by
  obtain ⟨_, o, rfl⟩ := d
  exact set_get_ne o (Ne.symm ne)
theorem Dr.len {h : Nat} {S S' : Store} (d : Dr h S S') : S'.length = S.length := by
  obtain ⟨_, o, rfl⟩ := d
  simp
theorem hand_congr {S S' : Store} {h : Nat} (hh : HandOk S h) (e : S'[h]? = S[h]?) : HandOk S' h := by
  obtain ⟨gs, p, d, s, c, h1, h2, h3⟩ := hh
  exact ⟨gs, p, d, s, c, by rw [e, h1], h2, h3⟩
theorem hand_lt {S : Store} {h : Nat} (hh : HandOk S h) : h < S.length := by
  obtain ⟨gs, p, d, s, c, h1, _⟩ := hh
  exact lt_of_get h1
theorem drawn {S : Store} {h : Nat} {many : Int} (hS : HandOk S h) (h1 : 1 ≤ many) (h2 : many < 1073741824) :
    ∃ (v : Int) (S' : Store), m__law_draw [.ref h, .int many] S = .ok (.int v) S' ∧ Dr h S S' ∧ 0 ≤ v ∧ v < many := by
  obtain ⟨v, o, e, k, h3, h4⟩ := draw_ok hS h1 h2
  exact ⟨v, _, e, ⟨k, o, rfl⟩, h3, h4⟩
/-- the hand as the law's first object -/
theorem hand0 (ns : List Int) : ∃ S, m__law_hand [.lst (ns.map D.int)] [] = .ok (.ref 0) S ∧ HandOk S 0 ∧ S.length = 1 := by
  obtain ⟨gs, c, e1, hg⟩ := hand_ok (ns := ns) (S := [])
  have e1 : m__law_hand [.lst (ns.map D.int)] [] = .ok (.ref 0) [handO gs (0 : Nat) 0 c 0] := e1
  exact ⟨_, e1, ⟨gs, 0, 0, c, 0, rfl, Int.le_refl _, hg⟩, rfl⟩
end L06

end
section
set_option Elab.async false
set_option linter.all false
set_option maxRecDepth 100000
set_option maxHeartbeats 4000000
namespace L06
open PySem Dn
theorem any_at {S : Store} {h : Nat} {c : D} {sc : Src} {xs : List D} (hS : HandOk S h) (hc : srcOf S c = some sc) (hg : ∀ r, sc.get r S = some xs) (hg2 : ∀ r o, sc.get r (S.set h o) = some xs) (h1 : 1 ≤ xs.length) (h2 : xs.length ≤ 1000) :
    ∃ (v : Nat) (x : D) (S' : Store), m__law_any [.ref h, c] S = .ok x S' ∧ Dr h S S' ∧ xs[v]? = some x := by
  obtain ⟨v, S', e1, ho, h3, h4⟩ := drawn (many := xs.length) hS (by omega) (by omega)
  have hv : v.toNat < xs.length := by omega
  refine ⟨v.toNat, xs[v.toNat], S', ?_, ho, by simp [hv]⟩
  have he : atD xs v = some xs[v.toNat] := by
    have : ((v.toNat : Nat) : Int) = v := by omega
    have q := atD_nat (xs := xs) (i := v.toNat) (d := xs[v.toNat]) (by simp [hv])
    rw [this] at q
    exact q
  obtain ⟨_, o, rfl⟩ := ho
  unfold m__law_any
  refine fnD_ret (r := [.val (.ref h), .val c]) rfl ?_
  show b__law_any [.val (.ref h), .val c] S = _
  unfold b__law_any
  refine ret_at ?_
  have l1 : lE (eVar 1) [.val (.ref h), .val c] S = .ok sc S := by
    rw [lE_ap, var_at (d := c) rfl, Rs.bind_ok, hc, Rs.ofO_some]
  have l2 : eLen (lE (eVar 1)) [.val (.ref h), .val c] S = .ok (.int xs.length) S := by
    rw [eLen_ap, l1, Rs.bind_ok, hg, Option.bind_some, Rs.ofO_some]
  rw [eIx_ap, l1, Rs.bind_ok, call_at (cons_at (var_at (d := .ref h) rfl) (cons_at l2 nil_at)) e1, Rs.bind_ok]
  dsimp only
  rw [hg2, Option.bind_some, he, Rs.ofO_some]
theorem any_lst {S : Store} {h : Nat} {xs : List D} (hS : HandOk S h) (h1 : 1 ≤ xs.length) (h2 : xs.length ≤ 1000) :
    ∃ (v : Nat) (x : D) (S' : Store), m__law_any [.ref h, .lst xs] S = .ok x S' ∧ Dr h S S' ∧ xs[v]? = some x :=
  any_at hS (srcOf_lst S xs) (fun _ => rfl) (fun _ _ => rfl) h1 h2
/-- of numbers -/
theorem any_ints {S : Store} {h : Nat} {xs : List Int} (hS : HandOk S h) (h1 : 1 ≤ xs.length) (h2 : xs.length ≤ 1000) :
    ∃ (x : Int) (S' : Store), m__law_any [.ref h, .lst (xs.map D.int)] S = .ok (.int x) S' ∧ Dr h S S' ∧ x ∈ xs := by
  obtain ⟨v, x, S', e, d, hx⟩ := any_lst (xs := xs.map D.int) hS (by simpa using h1) (by simpa using h2)
  obtain ⟨z, hz, rfl⟩ := get_map hx
  exact ⟨z, S', e, d, List.mem_of_getElem? hz⟩
theorem any_ref {S : Store} {h l : Nat} {xs : List D} (hS : HandOk S h) (hl : S[l]? = some (.lst xs)) (ne : h ≠ l) (h1 : 1 ≤ xs.length) (h2 : xs.length ≤ 1000) :
    ∃ (v : Nat) (x : D) (S' : Store), m__law_any [.ref h, .ref l] S = .ok x S' ∧ Dr h S S' ∧ xs[v]? = some x :=
  any_at hS (srcOf_ref hl) (fun _ => get_loc hl) (fun _ o => get_loc (by rw [set_get_ne o ne, hl])) h1 h2
end L06

end
section
set_option Elab.async false
set_option linter.all false
set_option maxRecDepth 100000
set_option maxHeartbeats 4000000
namespace Pg
open PySem Dn
theorem output_fi {S : Store} {I L : Nat} {xs : List D} {x : D} (hI : S[I]? = some (ideal L)) (hL : S[L]? = some (.lst xs)) (hx : FI S x) : m_Ideal_check_output [.ref I, x] S = if wi x 0 ((xs.length : Int) - 1) then .ok .non S else .exc "NoOutput" [] S := by
  have e := within_fi hx 0 ((xs.length : Int) - 1)
  rw [m_Ideal_check_output, fnD_fin, b_Ideal_check_output]
  cases q : wi x 0 ((xs.length : Int) - 1) <;> (rw [q] at e; simp [e, hI, ideal, srcOf, Src.get, hL, sRaise])
theorem chk_exc {S : Store} {I L : Nat} {xs : List D} {x : D} {R : Rho} (hI : S[I]? = some (ideal L)) (hL : S[L]? = some (.lst xs)) (hx : FI S x) (hw : wi x 0 ((xs.length : Int) - 1) = false) (v0 : R[0]? = some (.val (.ref I))) (v1 : R[1]? = some (.val x)) :
    sDrop (eMeth "Ideal" "check_output" m_Ideal_check_output (eVar 0) (aCons (eVar 1) aNil)) R S = .exc "NoOutput" [] R S := by
  have e := output_fi hI hL hx
  rw [hw] at e
  rw [sDrop_ap, meth_at (var_at v0) hI (look_ne (by decide +kernel)) (cons_at (var_at v1) nil_at), e]
  rfl
theorem due_out {S : Store} {I L : Nat} {xs : List D} {x : D} (hI : S[I]? = some (ideal L)) (hL : S[L]? = some (.lst xs)) (hx : FI S x) (hw : wi x 0 ((xs.length : Int) - 1) = false) : m_Ideal_due [.ref I, x] S = .exc "NoOutput" [] S := by
  rw [m_Ideal_due, fnD_fin, b_Ideal_due]
  show (sSeq _ _ [.val (.ref I), .val x] S).fin = _
  rw [sSeq_ap, chk_exc hI hL hx hw rfl rfl]
  rfl
theorem held_out {S : Store} {I L : Nat} {xs : List D} {x : D} (hI : S[I]? = some (ideal L)) (hL : S[L]? = some (.lst xs)) (hx : FI S x) (hw : wi x 0 ((xs.length : Int) - 1) = false) : m_Ideal_held [.ref I, x] S = .exc "NoOutput" [] S := by
  rw [m_Ideal_held, fnD_fin, b_Ideal_held]
  show (sSeq _ _ [.val (.ref I), .val x] S).fin = _
  rw [sSeq_ap, chk_exc hI hL hx hw rfl rfl]
  rfl
theorem let_go_out {S : Store} {I L : Nat} {xs : List D} {x : D} (hI : S[I]? = some (ideal L)) (hL : S[L]? = some (.lst xs)) (hx : FI S x) (hw : wi x 0 ((xs.length : Int) - 1) = false) : m_Ideal_let_go [.ref I, x] S = .exc "NoOutput" [] S := by
  rw [m_Ideal_let_go, fnD_fin, b_Ideal_let_go]
  show (sSeq _ _ [.val (.ref I), .val x] S).fin = _
  rw [sSeq_ap, chk_exc hI hL hx hw rfl rfl]
  rfl
theorem ahead_out {S : Store} {I L : Nat} {xs : List D} {x y : D} (hI : S[I]? = some (ideal L)) (hL : S[L]? = some (.lst xs)) (hx : FI S x) (hw : wi x 0 ((xs.length : Int) - 1) = false) : m_Ideal_ahead [.ref I, x, y] S = .exc "NoOutput" [] S := by
  rw [m_Ideal_ahead, fnD_fin, b_Ideal_ahead]
  show (sSeq _ _ [.val (.ref I), .val x, .val y, .un] S).fin = _
  rw [sSeq_ap, chk_exc hI hL hx hw rfl rfl]
  rfl
theorem push_out {S : Store} {I L : Nat} {xs : List D} {x y : D} (hI : S[I]? = some (ideal L)) (hL : S[L]? = some (.lst xs)) (hx : FI S x) (hw : wi x 0 ((xs.length : Int) - 1) = false) : m_Ideal_push [.ref I, x, y] S = .exc "NoOutput" [] S := by
  rw [m_Ideal_push, fnD_fin, b_Ideal_push]
  show (sSeq _ _ [.val (.ref I), .val x, .val y, .un, .un] S).fin = _
  rw [sSeq_ap, chk_exc hI hL hx hw rfl rfl]
  rfl
theorem key_exc {S : Store} {y : D} {R : Rho} (hy : FI S y) (hk : keyP y = false) (v2 : R[2]? = some (.val y)) : sDrop (eCall m_check_key (aCons (eVar 2) aNil)) R S = .exc "NoKey" [] R S := by
  have e := check_key_fi hy
  rw [hk] at e
  simp [v2, e]
theorem ahead_key {S : Store} {I L : Nat} {xs : List D} {j : Nat} {y : D} (hI : S[I]? = some (ideal L)) (hL : S[L]? = some (.lst xs)) (hj : j < xs.length) (hy : FI S y) (hk : keyP y = false) : m_Ideal_ahead [.ref I, .int j, y] S = .exc "NoKey" [] S := by
  rw [m_Ideal_ahead, fnD_fin, b_Ideal_ahead]
  show (sSeq _ _ [.val (.ref I), .val (.int j), .val y, .un] S).fin = _
  rw [seq_next (chk_at hI hL hj rfl rfl), sSeq_ap, key_exc hy hk rfl]
  rfl
theorem push_key {S : Store} {I L : Nat} {xs : List D} {j : Nat} {y : D} (hI : S[I]? = some (ideal L)) (hL : S[L]? = some (.lst xs)) (hj : j < xs.length) (hy : FI S y) (hk : keyP y = false) : m_Ideal_push [.ref I, .int j, y] S = .exc "NoKey" [] S := by
  rw [m_Ideal_push, fnD_fin, b_Ideal_push]
  show (sSeq _ _ [.val (.ref I), .val (.int j), .val y, .un, .un] S).fin = _
  rw [seq_next (chk_at hI hL hj rfl rfl), sSeq_ap, key_exc hy hk rfl]
  rfl
end Pg
namespace L06
open PySem Dn Pg
@[simp] theorem ne_NoLines_NoOutput : (Str.ofString "NoLines" = Str.ofString "NoOutput") = False := by
  simp only [eq_iff_iff, iff_false]
  decide +kernel
@[simp] theorem ne_NoLines_NoKey : (Str.ofString "NoLines" = Str.ofString "NoKey") = False := by
  simp only [eq_iff_iff, iff_false]
  decide +kernel
@[simp] theorem ne_NoLines_KeyThere : (Str.ofString "NoLines" = Str.ofString "KeyThere") = False := by
  simp only [eq_iff_iff, iff_false]
  decide +kernel
@[simp] theorem ne_NoLines_NothingThere : (Str.ofString "NoLines" = Str.ofString "NothingThere") = False := by
  simp only [eq_iff_iff, iff_false]
  decide +kernel
@[simp] theorem ne_NoOutput_NoLines : (Str.ofString "NoOutput" = Str.ofString "NoLines") = False := by
  simp only [eq_iff_iff, iff_false]
  decide +kernel
@[simp] theorem ne_NoOutput_NoKey : (Str.ofString "NoOutput" = Str.ofString "NoKey") = False := by
  simp only [eq_iff_iff, iff_false]
  decide +kernel
@[simp] theorem ne_NoOutput_KeyThere : (Str.ofString "NoOutput" = Str.ofString "KeyThere") = False := by
  simp only [eq_iff_iff, iff_false]
  decide +kernel
@[simp] theorem ne_NoOutput_NothingThere : (Str.ofString "NoOutput" = Str.ofString "NothingThere") = False := by
  simp only [eq_iff_iff, iff_false]
  decide +kernel
@[simp] theorem ne_NoKey_NoLines : (Str.ofString "NoKey" = Str.ofString "NoLines") = False := by
  simp only [eq_iff_iff, iff_false]
  decide +kernel
@[simp] theorem ne_NoKey_NoOutput : (Str.ofString "NoKey" = Str.ofString "NoOutput") = False := by
  simp only [eq_iff_iff, iff_false]
  decide +kernel
@[simp] theorem ne_NoKey_KeyThere : (Str.ofString "NoKey" = Str.ofString "KeyThere") = False := by
  simp only [eq_iff_iff, iff_false]
  decide +kernel
@[simp] theorem ne_NoKey_NothingThere : (Str.ofString "NoKey" = Str.ofString "NothingThere") = False := by
  simp only [eq_iff_iff, iff_false]
  decide +kernel
@[simp] theorem ne_KeyThere_NoLines : (Str.ofString "KeyThere" = Str.ofString "NoLines") = False := by
  simp only [eq_iff_iff, iff_false]
  decide +kernel
@[simp] theorem ne_KeyThere_NoOutput : (Str.ofString "KeyThere" = Str.ofString "NoOutput") = False := by
  simp only [eq_iff_iff, iff_false]
  decide +kernel
@[simp] theorem ne_KeyThere_NoKey : (Str.ofString "KeyThere" = Str.ofString "NoKey") = False := by
  simp only [eq_iff_iff, iff_false]
  decide +kernel
@[simp] theorem ne_KeyThere_NothingThere : (Str.ofString "KeyThere" = Str.ofString "NothingThere") = False := by
  simp only [eq_iff_iff, iff_false]
  decide +kernel
@[simp] theorem ne_NothingThere_NoLines : (Str.ofString "NothingThere" = Str.ofString "NoLines") = False := by
  simp only [eq_iff_iff, iff_false]
  decide +kernel
@[simp] theorem ne_NothingThere_NoOutput : (Str.ofString "NothingThere" = Str.ofString "NoOutput") = False := by
  simp only [eq_iff_iff, iff_false]
  decide +kernel
@[simp] theorem ne_NothingThere_NoKey : (Str.ofString "NothingThere" = Str.ofString "NoKey") = False := by
  simp only [eq_iff_iff, iff_false]
  decide +kernel
@[simp] theorem ne_NothingThere_KeyThere : (Str.ofString "NothingThere" = Str.ofString "KeyThere") = False := by
  simp only [eq_iff_iff, iff_false]
  decide +kernel
/-! ### the word of a call -/
theorem word_let {act : Store → Rs D} {S S' : Store} {v : D} (h : act S = .ok v S') : hoD 4 b__law_word act S = .ok (.str "let") S' := by
  simp [hoD, b__law_word, sTry, eAct, deexc, Sl.deexc, h]
theorem word_NoLines {act : Store → Rs D} {S S' : Store} (h : act S = .exc "NoLines" [] S') : ∃ o, hoD 4 b__law_word act S = .ok (.str "lines") (S' ++ [o]) := by
  refine ⟨.lst [.bl true, .bl false, .bl false, .bl false, .bl false], ?_⟩
  have fi : List.findIdx (fun z => eqD z (D.bl true)) [D.bl true, D.bl false, D.bl false, D.bl false, D.bl false] = 0 := rfl
  simp [hoD, b__law_word, sTry, eAct, deexc, Sl.deexc, h, handleD, Dn.held, unb, clr, eIsExc, fi, eCount_ap, eIndex_ap, eqD, D.pl, D.pls, Src.get, Src.isT, srcOf]
theorem word_NoOutput {act : Store → Rs D} {S S' : Store} (h : act S = .exc "NoOutput" [] S') : ∃ o, hoD 4 b__law_word act S = .ok (.str "output") (S' ++ [o]) := by
  refine ⟨.lst [.bl false, .bl true, .bl false, .bl false, .bl false], ?_⟩
  have fi : List.findIdx (fun z => eqD z (D.bl true)) [D.bl false, D.bl true, D.bl false, D.bl false, D.bl false] = 1 := rfl
  simp [hoD, b__law_word, sTry, eAct, deexc, Sl.deexc, h, handleD, Dn.held, unb, clr, eIsExc, fi, eCount_ap, eIndex_ap, eqD, D.pl, D.pls, Src.get, Src.isT, srcOf]
theorem word_NoKey {act : Store → Rs D} {S S' : Store} (h : act S = .exc "NoKey" [] S') : ∃ o, hoD 4 b__law_word act S = .ok (.str "key") (S' ++ [o]) := by
  refine ⟨.lst [.bl false, .bl false, .bl true, .bl false, .bl false], ?_⟩
  have fi : List.findIdx (fun z => eqD z (D.bl true)) [D.bl false, D.bl false, D.bl true, D.bl false, D.bl false] = 2 := rfl
  simp [hoD, b__law_word, sTry, eAct, deexc, Sl.deexc, h, handleD, Dn.held, unb, clr, eIsExc, fi, eCount_ap, eIndex_ap, eqD, D.pl, D.pls, Src.get, Src.isT, srcOf]
theorem word_KeyThere {act : Store → Rs D} {S S' : Store} (h : act S = .exc "KeyThere" [] S') : ∃ o, hoD 4 b__law_word act S = .ok (.str "there") (S' ++ [o]) := by
  refine ⟨.lst [.bl false, .bl false, .bl false, .bl true, .bl false], ?_⟩
  have fi : List.findIdx (fun z => eqD z (D.bl true)) [D.bl false, D.bl false, D.bl false, D.bl true, D.bl false] = 3 := rfl
  simp [hoD, b__law_word, sTry, eAct, deexc, Sl.deexc, h, handleD, Dn.held, unb, clr, eIsExc, fi, eCount_ap, eIndex_ap, eqD, D.pl, D.pls, Src.get, Src.isT, srcOf]
theorem word_NothingThere {act : Store → Rs D} {S S' : Store} (h : act S = .exc "NothingThere" [] S') : ∃ o, hoD 4 b__law_word act S = .ok (.str "nothing") (S' ++ [o]) := by
  refine ⟨.lst [.bl false, .bl false, .bl false, .bl false, .bl true], ?_⟩
  have fi : List.findIdx (fun z => eqD z (D.bl true)) [D.bl false, D.bl false, D.bl false, D.bl false, D.bl true] = 4 := rfl
  simp [hoD, b__law_word, sTry, eAct, deexc, Sl.deexc, h, handleD, Dn.held, unb, clr, eIsExc, fi, eCount_ap, eIndex_ap, eqD, D.pl, D.pls, Src.get, Src.isT, srcOf]
/-! ### the first that is not right -/
def pD (a : Str) (p : Bool) : D := .tup [.str a, .bl p]
theorem first1 (a : Str) (p : Bool) (S : Store) : m__law_first [.lst [pD a p]] S = .ok (.str (if p then "let" else a)) S := by
  rw [m__law_first, fnD_fin, b__law_first]
  cases p <;> simp [pD, nLc_ap, iSeqD_ap, wipeD, lcGo, gTupD, gsCons, gsNil, gNameD, opAdd, Dn.listOf]
theorem first2 (a b : Str) (p q : Bool) (S : Store) : m__law_first [.lst [pD a p, pD b q]] S = .ok (.str (if p then (if q then "let" else b) else a)) S := by
  rw [m__law_first, fnD_fin, b__law_first]
  cases p <;> cases q <;> simp [pD, nLc_ap, iSeqD_ap, wipeD, lcGo, gTupD, gsCons, gsNil, gNameD, opAdd, Dn.listOf]
theorem first3 (a b c : Str) (p q r : Bool) (S : Store) : m__law_first [.lst [pD a p, pD b q, pD c r]] S = .ok (.str (if p then (if q then (if r then "let" else c) else b) else a)) S := by
  rw [m__law_first, fnD_fin, b__law_first]
  cases p <;> cases q <;> cases r <;> simp [pD, nLc_ap, iSeqD_ap, wipeD, lcGo, gTupD, gsCons, gsNil, gNameD, opAdd, Dn.listOf]
end L06

end
section
set_option Elab.async false
set_option linter.all false
set_option maxRecDepth 100000
set_option maxHeartbeats 4000000
namespace L06
open PySem Dn Pg
/-- the hand changed, new objects came -/
def Gr (S S' : Store) : Prop := HandOk S' 0 ∧ S.length ≤ S'.length ∧ ∀ a, a ≠ 0 → a < S.length → S'[a]? = S[a]?
theorem Gr.refl {S : Store} (h : HandOk S 0) : Gr S S := ⟨h, Nat.le_refl _, fun _ _ _ => rfl⟩
theorem Gr.trans {S S1 S2 : Store} (a : Gr S S1) (b : Gr S1 S2) : Gr S S2 :=
  ⟨b.1, Nat.le_trans a.2.1 b.2.1, fun x h0 hx => (b.2.2 x h0 (Nat.lt_of_lt_of_le hx a.2.1)).trans (a.2.2 x h0 hx)⟩
theorem Gr.dr {S S' : Store} (d : Dr 0 S S') : Gr S S' := ⟨d.1, by rw [d.len]; exact Nat.le_refl _, fun x h0 _ => d.get h0⟩
theorem Gr.app {S : Store} (h : HandOk S 0) (T : List SO) : Gr S (S ++ T) :=
  ⟨hand_congr h (List.getElem?_append_left (hand_lt h)), by simp, fun x _ hx => List.getElem?_append_left hx⟩
theorem Gr.get {S S' : Store} (g : Gr S S') {a : Nat} {o : SO} (h0 : a ≠ 0) (h : S[a]? = some o) : S'[a]? = some o := (g.2.2 a h0 (lt_of_get h)).trans h
theorem Gr.fi {S S' : Store} (g : Gr S S') (hh : HandOk S 0) {x : D} (h : FI S x) : FI S' x := by
  obtain ⟨gs, p, d, s, c, h0, _⟩ := hh
  cases h with
  | dt h => exact .dt h
  | dct h => exact .dct (g.get (fun e => by rw [e, h0] at h; cases h) h)
  | ins h => exact .ins (g.get (fun e => by rw [e, h0] at h; cases h) h)
/-- a drawn value -/
def Ov (S : Store) (x : D) : Prop := FI S x ∧ keyP x = keyL x
theorem Gr.ov {S S' : Store} (g : Gr S S') (hh : HandOk S 0) {x : D} (h : Ov S x) : Ov S' x := ⟨g.fi hh h.1, h.2⟩
theorem ov_dt {S : Store} {x : D} (h : x.dt = true) (k : keyP x = keyL x) : Ov S x := ⟨.dt h, k⟩
theorem deep_ok {S : Store} (hh : HandOk S 0) : ∃ x S', m__law_deep [.ref 0] S = .ok x S' ∧ Dr 0 S S' ∧ x.dt = true ∧ keyP x = keyL x := by
  obtain ⟨v, x, S1, e1, d1, hx⟩ := any_lst (xs := [.int 0, .tup [], .str "a"]) hh (by simp) (by simp)
  have hx0 : x.dt = true ∧ keyP x = keyL x := by
    have := List.mem_of_getElem? hx
    simp only [List.mem_cons, List.not_mem_nil, or_false] at this
    rcases this with rfl | rfl | rfl <;> exact ⟨rfl, rfl⟩
  obtain ⟨w, S2, e2, d2, w1, w2⟩ := drawn (many := 12) d1.1 (by omega) (by omega)
  obtain ⟨N, hN, N3⟩ : ∃ N : Nat, 18 + w = (N : Int) ∧ N ≤ 30 := ⟨(18 + w).toNat, by omega, by omega⟩
  have en : eOp opAdd (eC (.int 18)) (eCall m__law_draw (aCons (eVar 0) (aCons (eC (.int 12)) aNil))) [.val (.ref 0), .val x, .un] S1 = .ok (.int N) S2 := by
    simp [e2, opAdd, hN]
  have ei := iRange1_nat (by omega) en
  obtain ⟨r', S', ef, hd, y, z, rfl, hy⟩ := forGo_inv (ok := fun _ => True) (g := gNameD 2) (b := (sSet 1 (eIf (tOfB (eCmp (fun _ => cmpI iGt) (eCall m__law_draw (aCons (eVar 0) (aCons (eC (.int 3)) (aNil)))) (eC (.int 0)))) (eTup (aCons (eVar 1) (aNil))) (eFrz (nLst (aCons (eVar 1) (aNil)))))))
    (fun _ r S' => Dr 0 S S' ∧ ∃ y z, r = [.val (.ref 0), .val y, z] ∧ y.dt = true ∧ keyP y = keyL y) (rangeD 0 N) 0 [.val (.ref 0), .val x, .un] S2 ⟨d1.trans d2, x, .un, rfl, hx0⟩ (fun _ _ _ _ => trivial) fun i u r S' hu hP => by
      obtain ⟨hd, y, z, rfl, y1, y2⟩ := hP
      obtain ⟨k, S3, e3, d3, k1, k2⟩ := drawn (many := 3) hd.1 (by omega) (by omega)
      refine ⟨[.val (.ref 0), .val y, .val u], by simp [gNameD], ?_⟩
      by_cases q : 0 < k
      · exact ⟨[.val (.ref 0), .val (.tup [y]), .val u], S3, .inl (by simp [e3, q]), hd.trans d3, .tup [y], .val u, rfl, by simp [y1], rfl⟩
      · exact ⟨[.val (.ref 0), .val (.lst [y]), .val u], S3, .inl (by simp [e3, q]), hd.trans d3, .lst [y], .val u, rfl, by simp [y1], rfl⟩
  refine ⟨y, S', ?_, hd, hy⟩
  rw [m__law_deep, fnD_fin, b__law_deep]
  simp [e1, ei, ef]
theorem odd_ok {S : Store} {other : D} (hh : HandOk S 0) (ho : Ov S other) : ∃ x S', m__law_odd [.ref 0, other] S = .ok x S' ∧ Gr S S' ∧ Ov S' x := by
  let S2 : Store := S ++ [.dct false []] ++ [.dct false [(.int 0, .int 0)]]
  have g2 : Gr S S2 := (Gr.app hh _).trans (Gr.app (Gr.app hh _).1 _)
  obtain ⟨y, S3, e3, d3, y1, y2⟩ := deep_ok g2.1
  have g3 := g2.trans (Gr.dr d3)
  let xs : List D := [.non, .bl true, .bl false, .int (-1), .int 13, .int 100, .int 100000000000000000000000000000000000000000000000000000000000, .str "0", .str "", .tup [], .lst [], .ref S.length, .tup [.int 0], .lst [.int 0], .tup [.bl true], .tup [.str "0"], .tup [.non, .int 0], .ref (S.length + 1), other, y]
  obtain ⟨v, x, S4, e4, d4, hx⟩ := any_lst (xs := xs) g3.1 (by simp [xs]) (by simp [xs])
  have g4 := g3.trans (Gr.dr d4)
  have hl := hand_lt hh
  have q1 : S2[S.length]? = some (.dct false []) := by simp [S2]
  have q2 : S2[S.length + 1]? = some (.dct false [(.int 0, .int 0)]) := by simp [S2]
  have gl := Gr.trans (Gr.dr d3) (Gr.dr d4)
  refine ⟨x, S4, ?_, g4, ?_⟩
  · have p59 : opPow (.int 10) (.int 59) = some (.int 100000000000000000000000000000000000000000000000000000000000) := rfl
    have hdisp : ∀ (R : Rho), eDisp (kvCons (eC (.int 0)) (eC (.int 0)) kvNil) R (S ++ [.dct false []]) = .ok (.ref (S.length + 1)) S2 := fun R => by
      unfold eDisp kvCons kvNil
      simp [mergeKV, keyOf, putKV, S2]
    rw [m__law_odd, fnD_fin, b__law_odd]
    have e4' : m__law_any [.ref 0, .lst [.non, .bl true, .bl false, .int (-1), .int 13, .int 100, .int 100000000000000000000000000000000000000000000000000000000000, .str "0", .str "", .tup [], .lst [], .ref S.length, .tup [.int 0], .lst [.int 0], .tup [.bl true], .tup [.str "0"], .tup [.non, .int 0], .ref (S.length + 1), other, y]] S3 = .ok x S4 := e4
    simp [p59, hdisp, e3, opAdd, Dn.listOf, e4']
  · have hm := List.mem_of_getElem? hx
    simp only [xs, List.mem_cons, List.not_mem_nil, or_false] at hm
    rcases hm with rfl | rfl | rfl | rfl | rfl | rfl | rfl | rfl | rfl | rfl | rfl | rfl | rfl | rfl | rfl | rfl | rfl | rfl | rfl | rfl <;>
      first
      | exact ov_dt rfl rfl
      | exact ⟨.dct (gl.get (by omega) q1), rfl⟩
      | exact ⟨.dct (gl.get (by omega) q2), rfl⟩
      | exact g4.ov hh ho
      | exact ov_dt y1 y2
end L06

end
section
set_option Elab.async false
set_option linter.all false
set_option maxRecDepth 100000
set_option maxHeartbeats 4000000
namespace L06
open PySem Dn Pg
theorem cut_take {xs : List D} {n : Nat} (h : n ≤ xs.length) : cutD xs none (some (n : Int)) = xs.take n := by
  have : ¬ ((n : Int) < 0) := by omega
  simp [cutD, cutAt, this, Nat.min_eq_left h]
theorem cut_drop {xs : List D} {n : Nat} (h : n ≤ xs.length) : cutD xs (some (n : Int)) none = xs.drop n := by
  have : ¬ ((n : Int) < 0) := by omega
  simp only [cutD, cutAt, this, if_false, Int.toNat_natCast, Nat.min_eq_left h]
  rw [List.take_of_length_le (by simp)]
theorem inserted_at {S : Store} {r : List Key} {k : Key} (hs : Srt r) (hz : r.length ≤ 1000) : m__law_inserted [.lst (r.map keyD), keyD k] S = .ok (.lst ((insK r k).map keyD)) S := by
  let n := (r.filter fun a => klt a k).length
  have hn : n ≤ r.length := List.length_filter_le _ _
  have hn2 : n ≤ (r.map keyD).length := by simpa using hn
  unfold m__law_inserted
  refine fnD_ret (r := [.val (.lst (r.map keyD)), .val (keyD k), .val (.int n), .un]) rfl ?_
  show b__law_inserted [.val (.lst (r.map keyD)), .val (keyD k), .un, .un] S = _
  unfold b__law_inserted
  have lc : nLc (iSeqD (eVar 0)) (gNameD 3) (tOfB (eCmp (fun _ => cmpLt) (eVar 3) (eVar 1))) (eVar 3) [3] [.val (.lst (r.map keyD)), .val (keyD k), .un, .un] S = .ok ((r.filter fun a => klt a k).map keyD) S := by
    refine lc_at (wk := wkS (r.map keyD)) (S' := S) ?_ (lc_filter (f := fun a => klt a k) trivial r fun a _ => ⟨[.val (.lst (r.map keyD)), .val (keyD k), .un, .val (keyD a)], rfl, ?_, rfl⟩)
    · rw [iSeqD_ap, var_at (d := .lst (r.map keyD)) rfl, Rs.bind_ok]
      rfl
    · rw [tOfB_ap, eCmp_ap, var_at (d := keyD a) rfl, Rs.bind_ok, var_at (d := keyD k) rfl, Rs.bind_ok, cmpLt_key]
      rfl
  have ln : eLen (lE (eFrz (nLc (iSeqD (eVar 0)) (gNameD 3) (tOfB (eCmp (fun _ => cmpLt) (eVar 3) (eVar 1))) (eVar 3) [3]))) [.val (.lst (r.map keyD)), .val (keyD k), .un, .un] S = .ok (.int n) S := by
    rw [eLen_ap, lE_ap, frz_at lc, Rs.bind_ok, srcOf_lst, Rs.ofO_some, Rs.bind_ok, get_cst, Option.bind_some, Rs.ofO_some]
    simp [n]
  rw [seq_next (set_at (i := 2) ln (by simp))]
  show sRet _ [.val (.lst (r.map keyD)), .val (keyD k), .val (.int n), .un] S = _
  generalize hr : ([.val (.lst (r.map keyD)), .val (keyD k), .val (.int n), .un] : Rho) = R
  have v0 : R[0]? = some (.val (.lst (r.map keyD))) := by rw [← hr]; rfl
  have v1 : R[1]? = some (.val (keyD k)) := by rw [← hr]; rfl
  have v2 : R[2]? = some (.val (.int n)) := by rw [← hr]; rfl
  have sl1 : eSlice (lE (eVar 0)) oNone (oSome (eVar 2)) R S = .ok (.lst ((r.map keyD).take n)) S := by
    rw [eSlice_ap, lE_ap, var_at v0, Rs.bind_ok, srcOf_lst, Rs.ofO_some, Rs.bind_ok, oNone_ap, Rs.bind_ok, oSome_ap, var_at v2, Rs.bind_ok]
    dsimp only
    rw [Rs.bind_ok, get_cst, Rs.ofO_some, Rs.bind_ok, cut_take hn2]
    rfl
  have sl2 : eSlice (lE (eVar 0)) (oSome (eVar 2)) oNone R S = .ok (.lst ((r.map keyD).drop n)) S := by
    rw [eSlice_ap, lE_ap, var_at v0, Rs.bind_ok, srcOf_lst, Rs.ofO_some, Rs.bind_ok, oSome_ap, var_at v2, Rs.bind_ok]
    dsimp only
    rw [Rs.bind_ok, oNone_ap, Rs.bind_ok, get_cst, Rs.ofO_some, Rs.bind_ok, cut_drop hn2]
    rfl
  have one : eFrz (nLst (aCons (eVar 1) aNil)) R S = .ok (.lst [keyD k]) S := frz_at (by rw [nLst_ap, cons_at (var_at v1) nil_at, Rs.bind_ok, if_pos (by rw [sizeLine_val]; simp)])
  have add : ∀ xs ys : List D, xs.length + ys.length ≤ 16777216 → opAdd S (.lst xs) (.lst ys) = some (.lst (xs ++ ys)) := fun xs ys h => by
    show (if xs.length + ys.length ≤ sizeLine then some (D.lst (xs ++ ys)) else none) = _
    rw [if_pos (by rw [sizeLine_val]; exact h)]
  rw [ret_at (op_at (op_at sl1 one (add _ _ (by simp; omega))) sl2 (add _ _ (by simp; omega)))]
  have e : (r.map keyD).take n ++ [keyD k] ++ (r.map keyD).drop n = (insK r k).map keyD := by
    rw [← ins_take hs]
    simp [n]
  rw [e]
theorem slot_new {r : Rho} {i : Nat} {v : Sl} (h : i < r.length) : (r.set i v)[i]? = some v := List.getElem?_set_self h
theorem slot_old {r : Rho} {i j : Nat} {v w : Sl} (h : i ≠ j) (e : r[j]? = some w) : (r.set i v)[j]? = some w := by rw [List.getElem?_set_ne h, e]
theorem cmpNe_self {S : Store} {d : D} (h1 : D.pl 64 (flatL S d) = true) (h2 : eqD (flatL S d) (flatL S d) = true) : cmpNe S d d = some false := by
  unfold cmpNe
  rw [h1, h2]
  rfl
theorem eq_key (a : Key) : eqD (keyD a) (keyD a) = true := by simp [keyD, eqD, eqDs]
theorem eq_keys : ∀ r : List Key, eqDs (r.map keyD) (r.map keyD) = true
  | [] => rfl
  | a :: r => by simp [eqDs, eq_key, eq_keys r]
theorem pl_keys : ∀ r : List Key, D.pls 62 (r.map keyD) = true
  | [] => rfl
  | a :: r => by simp [D.pls, pl_keys r, keyD, D.pl]
/-! ### a new pair -/
theorem ne_of_tag {T : Nat → Nat × Nat} {x y : Nat} {a b : Nat × Nat} (h1 : T x = a) (h2 : T y = b) (h : a ≠ b) : x ≠ y := fun e => h (by rw [← h1, ← h2, e])
theorem ins_len (r : List Key) (k : Key) : (insK r k).length = r.length + 1 := by
  have := (ins_perm r k).length_eq
  simpa using this
theorem key_at {S : Store} {h : Nat} (hS : HandOk S h) {many : Int} (m1 : 1 ≤ many) (m2 : many < 1073741824) :
    ∃ (k : Key) (S' : Store), m__law_key [.ref h, .int many] S = .ok (keyD k) S' ∧ Dr h S S' ∧ -1000000000000000000 ≤ k.1 ∧ k.1 ≤ 1000000000000000000 ∧ 0 ≤ k.2 ∧ k.2 < many := by
  obtain ⟨v, S1, e1, d1, v1, v2⟩ := drawn (many := 50) hS (by decide) (by decide)
  let zs : List Int := [0, 0, 1, 2, -1, 1000000000000000000, -1000000000000000000, v - 25]
  obtain ⟨z, S2, e2, d2, hz⟩ := any_ints (xs := zs) d1.1 (by simp [zs]) (by simp [zs])
  have hb : -1000000000000000000 ≤ z ∧ z ≤ 1000000000000000000 := by
    simp only [zs, List.mem_cons, List.not_mem_nil, or_false] at hz
    omega
  obtain ⟨c, S3, e3, d3, c1, c2⟩ := drawn (many := many) d2.1 m1 m2
  refine ⟨(z, c), S3, ?_, (d1.trans d2).trans d3, hb.1, hb.2, c1, c2⟩
  unfold m__law_key
  refine fnD_ret (r := [.val (.ref h), .val (.int many), .val (.int z)]) rfl ?_
  show b__law_key [.val (.ref h), .val (.int many), .un] S = _
  unfold b__law_key
  generalize hr : ([.val (.ref h), .val (.int many), .un] : Rho) = R
  have v0 : R[0]? = some (.val (.ref h)) := by rw [← hr]; rfl
  have c0 : ∀ i : Int, eC (.int i) R S = .ok (.int i) S := fun _ => rfl
  have p18 : eOp (fun _ => opPow) (eC (.int 10)) (eC (.int 18)) R S = .ok (.int 1000000000000000000) S := op_at (c0 10) (c0 18) pow18
  have neg : ∀ {e : DE} {i : Int}, e R S = .ok (.int i) S → eUn opNeg e R S = .ok (.int (-i)) S := fun {e i} h => by rw [eUn_ap, h, Rs.bind_ok, opNeg_int, Rs.ofO_some]
  have dr : eOp (fun _ => opSub) (eCall m__law_draw (aCons (eVar 0) (aCons (eC (.int 50)) aNil))) (eC (.int 25)) R S = .ok (.int (v - 25)) S1 := op_at (call_at (cons_at (var_at v0) (cons_at (c0 50) nil_at)) e1) rfl rfl
  have disp : eFrz (nLst (aCons (eC (.int 0)) (aCons (eC (.int 0)) (aCons (eC (.int 1)) (aCons (eC (.int 2)) (aCons (eUn opNeg (eC (.int 1))) (aCons (eOp (fun _ => opPow) (eC (.int 10)) (eC (.int 18))) (aCons (eUn opNeg (eOp (fun _ => opPow) (eC (.int 10)) (eC (.int 18)))) (aCons (eOp (fun _ => opSub) (eCall m__law_draw (aCons (eVar 0) (aCons (eC (.int 50)) (aNil)))) (eC (.int 25))) (aNil)))))))))) R S = .ok (.lst (zs.map D.int)) S1 := by
    refine frz_at ?_
    rw [nLst_ap, cons_at (c0 0) (cons_at (c0 0) (cons_at (c0 1) (cons_at (c0 2) (cons_at (neg (c0 1)) (cons_at p18 (cons_at (neg p18) (cons_at dr nil_at))))))), Rs.bind_ok, if_pos (by rw [sizeLine_val]; simp)]
    rfl
  rw [seq_next (set_at (i := 2) (call_at (cons_at (var_at v0) (cons_at disp nil_at)) e2) (by rw [← hr]; simp))]
  have hr2 : R.set 2 (.val (.int z)) = [.val (.ref h), .val (.int many), .val (.int z)] := by rw [← hr]; rfl
  rw [hr2]
  refine ret_at ?_
  rw [eTup_ap, cons_at (var_at (d := .int z) rfl) (cons_at (call_at (cons_at (var_at (d := .ref h) rfl) (cons_at (var_at (d := .int many) rfl) nil_at)) e3) nil_at), Rs.bind_ok, if_pos (by rw [sizeLine_val]; simp)]
  rfl
/-! ### a switch and its rows -/
def KB (k : Key) : Prop := -1000000000000000000 ≤ k.1 ∧ k.1 ≤ 1000000000000000000 ∧ 0 ≤ k.2
def rowD (r : List Key) : D := .lst (r.map keyD)
/-- one pair of a switch and its rows; T: whose each object is -/
structure One (S : Store) (T : Nat → Nat × Nat) (I R n b L : Nat) (ls : List Nat) (rows : List (List Key)) : Prop where
  hI : S[I]? = some (ideal L)
  tI : T I = (I, 0)
  hL : S[L]? = some (.lst (ls.map D.ref))
  tL : T L = (I, 1)
  hR : S[R]? = some (.lst (rows.map rowD))
  tR : T R = (I, 2)
  nl : ls.length = n
  nr : rows.length = n
  row : ∀ (j l : Nat) (r : List Key), ls[j]? = some l → rows[j]? = some r → S[l]? = some (.lst (r.map keyD)) ∧ T l = (I, 3 + j)
  ok : ∀ r ∈ rows, Srt r ∧ r.length ≤ b ∧ ∀ k ∈ r, KB k
theorem One.frame {S S' : Store} {T T' : Nat → Nat × Nat} {I R n b b' L : Nat} {ls : List Nat} {rows : List (List Key)} (h : One S T I R n b L ls rows) (hb : b ≤ b') (hS : ∀ x, x < S.length → (T x).1 = I → S'[x]? = S[x]?) (hT : ∀ x, x < S.length → T' x = T x) :
    One S' T' I R n b' L ls rows := by
  have lI := lt_of_get h.hI
  have lL := lt_of_get h.hL
  have lR := lt_of_get h.hR
  refine ⟨?_, ?_, ?_, ?_, ?_, ?_, h.nl, h.nr, fun j l r h1 h2 => ?_, fun r hr => ⟨(h.ok r hr).1, Nat.le_trans (h.ok r hr).2.1 hb, (h.ok r hr).2.2⟩⟩
  · rw [hS I lI (by rw [h.tI]), h.hI]
  · rw [hT I lI, h.tI]
  · rw [hS L lL (by rw [h.tL]), h.hL]
  · rw [hT L lL, h.tL]
  · rw [hS R lR (by rw [h.tR]), h.hR]
  · rw [hT R lR, h.tR]
  · obtain ⟨q1, q2⟩ := h.row j l r h1 h2
    have ll := lt_of_get q1
    exact ⟨by rw [hS l ll (by rw [q2]), q1], by rw [hT l ll, q2]⟩
theorem One.drawn {S S' : Store} {T : Nat → Nat × Nat} {I R n b L : Nat} {ls : List Nat} {rows : List (List Key)} (h : One S T I R n b L ls rows) (t0 : T 0 = (0, 9)) (d : Dr 0 S S') : One S' T I R n b L ls rows := by
  have n0 : I ≠ 0 := fun e => by
    have := h.tI
    rw [e, t0] at this
    cases this
  refine h.frame (Nat.le_refl _) (fun x hx ht => d.get fun e => ?_) fun _ _ => rfl
  rw [e, t0] at ht
  exact n0 ht.symm
/-- a pair after its row j has changed: the switch's row stands at l', the law's row is r' -/
theorem One.put {S S' : Store} {T T' : Nat → Nat × Nat} {I R n b L j l' : Nat} {ls : List Nat} {rows : List (List Key)} {r' : List Key} (q : One S T I R n b L ls rows) (hT : ∀ x, x < S.length → T' x = T x)
    (hI : S'[I]? = S[I]?) (hL : S'[L]? = some (.lst ((ls.set j l').map D.ref))) (hR : S'[R]? = some (.lst ((rows.set j r').map rowD))) (hl : S'[l']? = some (.lst (r'.map keyD))) (tl : T' l' = (I, 3 + j))
    (ho : ∀ x i, T x = (I, 3 + i) → i ≠ j → x < S.length → S'[x]? = S[x]?) (hs : Srt r') (hz : r'.length ≤ b + 1) (hk : ∀ k ∈ r', KB k) : One S' T' I R n (b + 1) L (ls.set j l') (rows.set j r') := by
  have lI := lt_of_get q.hI
  have lL := lt_of_get q.hL
  have lR := lt_of_get q.hR
  refine ⟨by rw [hI, q.hI], by rw [hT I lI, q.tI], hL, by rw [hT L lL, q.tL], hR, by rw [hT R lR, q.tR], by rw [List.length_set, q.nl], by rw [List.length_set, q.nr], fun i l r h1 h2 => ?_, fun r hr => ?_⟩
  · by_cases e : i = j
    · subst e
      have hi : i < ls.length := by
        have := (List.getElem?_eq_some_iff.mp h1).1
        simpa using this
      have hi2 : i < rows.length := by
        have := (List.getElem?_eq_some_iff.mp h2).1
        simpa using this
      rw [List.getElem?_set_self hi] at h1
      rw [List.getElem?_set_self hi2] at h2
      cases h1
      cases h2
      exact ⟨hl, tl⟩
    · rw [List.getElem?_set_ne (Ne.symm e)] at h1 h2
      obtain ⟨q1, q2⟩ := q.row i l r h1 h2
      have ll := lt_of_get q1
      exact ⟨by rw [ho l i q2 e ll, q1], by rw [hT l ll, q2]⟩
  · rcases List.mem_or_eq_of_mem_set hr with z | z
    · exact ⟨(q.ok r z).1, Nat.le_succ_of_le (q.ok r z).2.1, (q.ok r z).2.2⟩
    · rw [z]; exact ⟨hs, hz, hk⟩
/-- what a deed on the pair of I leaves as it was -/
def Fr (I : Nat) (S : Store) (T : Nat → Nat × Nat) (S' : Store) (T' : Nat → Nat × Nat) : Prop := S.length ≤ S'.length ∧ (∀ x, x < S.length → T' x = T x) ∧ ∀ x, x < S.length → x ≠ 0 → (T x).1 ≠ I → S'[x]? = S[x]?
theorem keyPL (k : Key) (h1 : -1000000000000000000 ≤ k.1) (h2 : k.1 ≤ 1000000000000000000) (h3 : 0 ≤ k.2) (h4 : k.2 ≤ 1000000000) : keyP (keyD k) = true ∧ keyL (keyD k) = true := by
  simp [keyP, keyL, keyD, h1, h2, h3, h4, isIntD]
theorem some_key_ok {S : Store} {other : D} (hh : HandOk S 0) (ho : Ov S other) : ∃ x S', m__law_some_key [.ref 0, other] S = .ok x S' ∧ Gr S S' ∧ Ov S' x := by
  obtain ⟨⟨a, b⟩, S1, e1, d1, k1, k2, k3, k4⟩ := key_at (many := 12) hh (by omega) (by omega)
  have g1 := Gr.dr d1
  obtain ⟨o, S2, e2, g2, o2⟩ := odd_ok d1.1 (g1.ov hh ho)
  let xs : List D := [keyD (a, b), keyD (a, b), keyD (a, 1000000000), .tup [.int 1000000000000000001, .int b], .tup [.int (-1000000000000000001), .int b], .tup [.int a, .int (-1)], .tup [.bl true, .int b], .tup [.int a, .bl false], .tup [.int a], .tup [.int a, .int b, .int 0],
    .lst [.int a, .int b], .tup [.str "0", .int b], .tup [.int a, .non], .tup [.non, .int b], .int a, o]
  obtain ⟨v, x, S3, e3, d3, hx⟩ := any_lst (xs := xs) g2.1 (by simp [xs]) (by simp [xs])
  have g3 := (g1.trans g2).trans (Gr.dr d3)
  refine ⟨x, S3, ?_, g3, ?_⟩
  · have e3' : m__law_any [.ref 0, .lst [.tup [.int a, .int b], .tup [.int a, .int b], .tup [.int a, .int 1000000000], .tup [.int 1000000000000000001, .int b], .tup [.int (-1000000000000000001), .int b], .tup [.int a, .int (-1)], .tup [.bl true, .int b], .tup [.int a, .bl false], .tup [.int a], .tup [.int a, .int b, .int 0],
      .lst [.int a, .int b], .tup [.str "0", .int b], .tup [.int a, .non], .tup [.non, .int b], .int a, o]] S2 = .ok x S3 := e3
    have e1' : m__law_key [.ref 0, .int 12] S = .ok (.tup [.int a, .int b]) S1 := e1
    rw [m__law_some_key, fnD_fin, b__law_some_key]
    simp [e1', gTupD, gsCons, gsNil, gNameD, pow18, pow9, e2, opAdd, opSub, Dn.listOf, e3']
  · have hm := List.mem_of_getElem? hx
    have kb : k3 = k3 := rfl
    obtain ⟨p1, p2⟩ := keyPL (a, b) k1 k2 k3 (by omega)
    obtain ⟨p3, p4⟩ := keyPL (a, 1000000000) k1 k2 (by simp) (by simp)
    simp only [xs, List.mem_cons, List.not_mem_nil, or_false] at hm
    have b1 : b ≤ 1000000000 := by simp at k4; omega
    have b0 : 0 ≤ b := k3
    rcases hm with rfl | rfl | rfl | rfl | rfl | rfl | rfl | rfl | rfl | rfl | rfl | rfl | rfl | rfl | rfl | rfl <;>
      first
      | exact (Gr.dr d3).ov g2.1 o2
      | exact ov_dt rfl (p1.trans p2.symm)
      | exact ov_dt rfl (p3.trans p4.symm)
      | exact ov_dt rfl (by simp [keyP, keyL, isIntD, wi]; try omega)
end L06

end
section
set_option Elab.async false
set_option linter.all false
set_option maxRecDepth 100000
set_option maxHeartbeats 4000000
namespace L06
open PySem Dn Pg
theorem One.n0 {S : Store} {T : Nat → Nat × Nat} {I R n b L : Nat} {ls : List Nat} {rows : List (List Key)} (h : One S T I R n b L ls rows) (t0 : T 0 = (0, 9)) : I ≠ 0 := fun e => by
  have := h.tI
  rw [e, t0] at this
  cases this
theorem One.gr {S S' : Store} {T : Nat → Nat × Nat} {I R n b L : Nat} {ls : List Nat} {rows : List (List Key)} (h : One S T I R n b L ls rows) (t0 : T 0 = (0, 9)) (g : Gr S S') : One S' T I R n b L ls rows := by
  refine h.frame (Nat.le_refl _) (fun x hx ht => g.2.2 x (fun e => ?_) hx) fun _ _ => rfl
  rw [e, t0] at ht
  exact h.n0 t0 ht.symm
/-- a number of an output, told by the check -/
theorem out_at {x : D} {n : Nat} (h : wi x 0 ((n : Int) - 1) = true) : ∃ j : Nat, x = .int j ∧ j < n := by
  obtain ⟨i, rfl, h1, h2⟩ := wi_t h
  exact ⟨i.toNat, by rw [Int.toNat_of_nonneg h1], by omega⟩
theorem key_of {y : D} (h : keyP y = true) : ∃ k : Key, y = keyD k ∧ -1000000000000000000 ≤ k.1 ∧ k.1 ≤ 1000000000000000000 ∧ 0 ≤ k.2 := by
  unfold keyP at h
  split at h
  · rename_i a b
    simp only [Bool.and_eq_true, decide_eq_true_eq] at h
    obtain ⟨i, rfl, h1, h2⟩ := wi_t h.1
    obtain ⟨j, rfl⟩ := int_of h.2.1
    exact ⟨(i, j), rfl, h1, h2, h.2.2⟩
  · cases h
section
variable {S : Store} {T : Nat → Nat × Nat} {I R n b L : Nat} {ls : List Nat} {rows : List (List Key)} {x y : D} {V : Rho}
theorem ls_len (q : One S T I R n b L ls rows) : (((ls.map D.ref).length : Nat) : Int) = n := by simp [q.nl]
theorem row_of (q : One S T I R n b L ls rows) {j : Nat} (hj : j < n) : ∃ l r, ls[j]? = some l ∧ rows[j]? = some r ∧ S[l]? = some (.lst (r.map keyD)) ∧ T l = (I, 3 + j) ∧ Srt r ∧ r.length ≤ b ∧ ∀ k ∈ r, KB k := by
  have hj1 : j < rows.length := by rw [q.nr]; exact hj
  have hj2 : j < ls.length := by rw [q.nl]; exact hj
  have hr : rows[j]? = some rows[j] := by simp [hj1]
  have hl : ls[j]? = some ls[j] := by simp [hj2]
  obtain ⟨h1, h2⟩ := q.row j _ _ hl hr
  obtain ⟨h3, h4, h5⟩ := q.ok _ (List.mem_of_getElem? hr)
  exact ⟨_, _, hl, hr, h1, h2, h3, h4, h5⟩
/-- due, asked of any output -/
theorem due_w (hh : HandOk S 0) (q : One S T I R n b L ls rows) (hx : FI S x) (v4 : V[4]? = some (.val (.ref I))) (v6 : V[6]? = some (.val x)) :
    ∃ S', hoD 4 b__law_word (fun S' => eMeth "Ideal" "due" m_Ideal_due (eVar 4) (aCons (eVar 6) (aNil)) V S') S = .ok (.str (if wi x 0 ((n : Int) - 1) then "let" else "output")) S' ∧ Gr S S' := by
  have act : eMeth "Ideal" "due" m_Ideal_due (eVar 4) (aCons (eVar 6) (aNil)) V S = m_Ideal_due [.ref I, x] S := meth_at (var_at v4) q.hI (look_ne (by decide +kernel)) (cons_at (var_at v6) nil_at)
  cases hw : wi x 0 ((n : Int) - 1) with
  | false =>
    have e := due_out q.hI q.hL hx (by rw [ls_len q]; exact hw)
    obtain ⟨o, ho⟩ := word_NoOutput (act := fun S' => eMeth "Ideal" "due" m_Ideal_due (eVar 4) (aCons (eVar 6) (aNil)) V S') (act.trans e)
    exact ⟨_, ho, Gr.app hh _⟩
  | true =>
    obtain ⟨j, rfl, hj⟩ := out_at hw
    obtain ⟨l, r, hl, hr, h1, h2, h3, h4, h5⟩ := row_of q hj
    have e := due_ok q.hI q.hL hl h1
    exact ⟨S, word_let (act := fun S' => eMeth "Ideal" "due" m_Ideal_due (eVar 4) (aCons (eVar 6) (aNil)) V S') (act.trans e), Gr.refl hh⟩
theorem held_w (hh : HandOk S 0) (q : One S T I R n b L ls rows) (hx : FI S x) (v4 : V[4]? = some (.val (.ref I))) (v6 : V[6]? = some (.val x)) :
    ∃ S', hoD 4 b__law_word (fun S' => eMeth "Ideal" "held" m_Ideal_held (eVar 4) (aCons (eVar 6) (aNil)) V S') S = .ok (.str (if wi x 0 ((n : Int) - 1) then "let" else "output")) S' ∧ Gr S S' := by
  have act : eMeth "Ideal" "held" m_Ideal_held (eVar 4) (aCons (eVar 6) (aNil)) V S = m_Ideal_held [.ref I, x] S := meth_at (var_at v4) q.hI (look_ne (by decide +kernel)) (cons_at (var_at v6) nil_at)
  cases hw : wi x 0 ((n : Int) - 1) with
  | false =>
    have e := held_out q.hI q.hL hx (by rw [ls_len q]; exact hw)
    obtain ⟨o, ho⟩ := word_NoOutput (act := fun S' => eMeth "Ideal" "held" m_Ideal_held (eVar 4) (aCons (eVar 6) (aNil)) V S') (act.trans e)
    exact ⟨_, ho, Gr.app hh _⟩
  | true =>
    obtain ⟨j, rfl, hj⟩ := out_at hw
    obtain ⟨l, r, hl, hr, h1, h2, h3, h4, h5⟩ := row_of q hj
    have e := held_ok q.hI q.hL hl h1
    exact ⟨S, word_let (act := fun S' => eMeth "Ideal" "held" m_Ideal_held (eVar 4) (aCons (eVar 6) (aNil)) V S') (act.trans e), Gr.refl hh⟩
theorem ahead_w (hh : HandOk S 0) (q : One S T I R n b L ls rows) (hx : FI S x) (hy : FI S y) (v4 : V[4]? = some (.val (.ref I))) (v6 : V[6]? = some (.val x)) (v8 : V[8]? = some (.val y)) :
    ∃ S', hoD 4 b__law_word (fun S' => eMeth "Ideal" "ahead" m_Ideal_ahead (eVar 4) (aCons (eVar 6) (aCons (eVar 8) (aNil))) V S') S = .ok (.str (if wi x 0 ((n : Int) - 1) then (if keyP y then "let" else "key") else "output")) S' ∧ Gr S S' := by
  have act : eMeth "Ideal" "ahead" m_Ideal_ahead (eVar 4) (aCons (eVar 6) (aCons (eVar 8) (aNil))) V S = m_Ideal_ahead [.ref I, x, y] S := meth_at (var_at v4) q.hI (look_ne (by decide +kernel)) (cons_at (var_at v6) (cons_at (var_at v8) nil_at))
  cases hw : wi x 0 ((n : Int) - 1) with
  | false =>
    have e := ahead_out (y := y) q.hI q.hL hx (by rw [ls_len q]; exact hw)
    obtain ⟨o, ho⟩ := word_NoOutput (act := fun S' => eMeth "Ideal" "ahead" m_Ideal_ahead (eVar 4) (aCons (eVar 6) (aCons (eVar 8) (aNil))) V S') (act.trans e)
    exact ⟨_, ho, Gr.app hh _⟩
  | true =>
    obtain ⟨j, rfl, hj⟩ := out_at hw
    obtain ⟨l, r, hl, hr, h1, h2, h3, h4, h5⟩ := row_of q hj
    cases hk : keyP y with
    | false =>
      have e := ahead_key q.hI q.hL (j := j) (by simpa [q.nl] using hj) hy hk
      obtain ⟨o, ho⟩ := word_NoKey (act := fun S' => eMeth "Ideal" "ahead" m_Ideal_ahead (eVar 4) (aCons (eVar 6) (aCons (eVar 8) (aNil))) V S') (act.trans e)
      exact ⟨_, ho, Gr.app hh _⟩
    | true =>
      obtain ⟨k, rfl, k1, k2, k3⟩ := key_of hk
      have e := ahead_ok q.hI q.hL hl h1 k1 k2 k3
      exact ⟨S, word_let (act := fun S' => eMeth "Ideal" "ahead" m_Ideal_ahead (eVar 4) (aCons (eVar 6) (aCons (eVar 8) (aNil))) V S') (act.trans e), Gr.refl hh⟩
end
/-- two words are compared -/
theorem word_step {e f : DE} {V : Rho} {S S1 S2 : Store} {w : Str} (hw : PyData.strOk w = true) (h1 : eHo (hoD 4 b__law_word) e V S = .ok (.str w) S1) (h2 : f V S1 = .ok (.str w) S2) :
    sIf (tOfB (eCmp cmpNe (eHo (hoD 4 b__law_word) e) f)) (sRet (eC (.bl false))) sNext V S = .next V S2 := by
  refine (if_f (b := sNext) (S' := S2) ?_).trans (by rfl)
  rw [tOfB_ap, eCmp_ap, h1, Rs.bind_ok, h2, Rs.bind_ok, cmpNe_self (by show D.pl 64 (.str w) = true; rw [D.pl]; exact hw) (by show eqD (.str w) (.str w) = true; simp [eqD])]
  rfl
end L06

end
section
set_option Elab.async false
set_option linter.all false
set_option maxRecDepth 100000
set_option maxHeartbeats 4000000
namespace L06
open PySem Dn Pg
theorem deexc_val {V : Rho} {i : Nat} {d : D} (h : V[i]? = some (.val d)) : (deexc V)[i]? = some (.val d) := by
  simp [deexc, h, Sl.deexc]
/-- the names of a turn -/
structure Vok (V : Rho) (n I R : Nat) (x y : D) (o k : Bool) : Prop where
  len : V.length = 18
  v1 : V[1]? = some (.val (.ref 0))
  v3 : V[3]? = some (.val (.int n))
  v4 : V[4]? = some (.val (.ref I))
  v5 : V[5]? = some (.val (.ref R))
  v6 : V[6]? = some (.val x)
  v8 : V[8]? = some (.val y)
  v9 : V[9]? = some (.val (.bl o))
  v10 : V[10]? = some (.val (.bl k))
  v11 : V[11]? = some (.val (.lst [pD "output" o, pD "key" k]))
theorem Vok.set {V : Rho} {n I R : Nat} {x y : D} {o k : Bool} (h : Vok V n I R x y o k) {i : Nat} (hi : 12 ≤ i) (z : Sl) : Vok (V.set i z) n I R x y o k :=
  ⟨by rw [List.length_set, h.len], by rw [List.getElem?_set_ne (by omega), h.v1], by rw [List.getElem?_set_ne (by omega), h.v3], by rw [List.getElem?_set_ne (by omega), h.v4], by rw [List.getElem?_set_ne (by omega), h.v5],
   by rw [List.getElem?_set_ne (by omega), h.v6], by rw [List.getElem?_set_ne (by omega), h.v8], by rw [List.getElem?_set_ne (by omega), h.v9], by rw [List.getElem?_set_ne (by omega), h.v10], by rw [List.getElem?_set_ne (by omega), h.v11]⟩
noncomputable def newE : DE := eOr (eNot (eVar 9)) (eOr (eNot (eVar 10)) (eIn true (eIx (lE (eVar 8)) (eC (.int 1))) (lE (eFrz (nLc (iSeqD (eIx (lE (eVar 5)) (eVar 6))) (gTupD 2 (gsCons (gNameD 13) (gsCons (gNameD 14) (gsNil)))) (tYesD) (eVar 14) [13, 14])))))
noncomputable def dueE : DE := eCall m__law_first (aCons (eOp opAdd (eVar 11) (eFrz (nLst (aCons (eTup (aCons (eC (.str "there")) (aCons (eVar 12) (aNil)))) (aNil))))) (aNil))
noncomputable def pushE : DE := eMeth "Ideal" "push" m_Ideal_push (eVar 4) (aCons (eVar 6) (aCons (eVar 8) (aNil)))
noncomputable def putS : DS := sPutR (eVar 5) (eVar 6) (eCall m__law_inserted (aCons (eIx (lE (eVar 5)) (eVar 6)) (aCons (eVar 8) (aNil))))
section
variable {S : Store} {T : Nat → Nat × Nat} {I R n b L : Nat} {ls : List Nat} {rows : List (List Key)} {x y : D} {V : Rho} {o k : Bool}
theorem rowV (q : One S T I R n b L ls rows) {j : Nat} {r : List Key} (hr : rows[j]? = some r) (v5 : V[5]? = some (.val (.ref R))) (v6 : V[6]? = some (.val (.int j))) : eIx (lE (eVar 5)) (eVar 6) V S = .ok (rowD r) S := by
  have h4 : atD (rows.map rowD) (j : Int) = some (rowD r) := atD_nat (by simp [hr])
  rw [eIx_ap, lE_ap, var_at v5, Rs.bind_ok, srcOf_ref q.hR, Rs.ofO_some, Rs.bind_ok, var_at v6, Rs.bind_ok]
  dsimp only
  rw [get_loc q.hR, Option.bind_some, h4, Rs.ofO_some]
theorem new_no (h : Vok V n I R x y o k) (hok : (o && k) = false) : newE V S = .ok (.bl true) S := by
  unfold newE
  cases o with
  | false => simp [h.v9]
  | true =>
    have hk : k = false := by simpa using hok
    subst hk
    simp [h.v9, h.v10]
theorem new_at (q : One S T I R n b L ls rows) {j : Nat} {key : Key} {r : List Key} (h : Vok V n I R (.int j) (keyD key) true true) (hr : rows[j]? = some r) : newE V S = .ok (.bl (!r.any fun a => decide (a.2 = key.2))) S := by
  have row := rowV q hr h.v5 h.v6
  have key1 : eIx (lE (eVar 8)) (eC (.int 1)) V S = .ok (.int key.2) S := by
    rw [eIx_ap, lE_ap, var_at h.v8, Rs.bind_ok]
    rfl
  have cells : eFrz (nLc (iSeqD (eIx (lE (eVar 5)) (eVar 6))) (gTupD 2 (gsCons (gNameD 13) (gsCons (gNameD 14) (gsNil)))) (tYesD) (eVar 14) [13, 14]) V S = .ok (.lst ((r.map (·.2)).map D.int)) S := by
    refine frz_at (lc_at (wk := wkS (r.map keyD)) (S' := S) ?_ (cells_lc (q := wipeD V [13, 14]) trivial (fun a => ?_) (by simp [wipeD, h.len])))
    · rw [iSeqD_ap, row, Rs.bind_ok]
      rfl
    · simp [wipeD, gTupD, keyD, gsCons, gsNil, gNameD, h.len]
  have test : eIn true (eIx (lE (eVar 8)) (eC (.int 1))) (lE (eFrz (nLc (iSeqD (eIx (lE (eVar 5)) (eVar 6))) (gTupD 2 (gsCons (gNameD 13) (gsCons (gNameD 14) (gsNil)))) (tYesD) (eVar 14) [13, 14]))) V S = .ok (.bl (!r.any fun a => decide (a.2 = key.2))) S := by
    rw [eIn_ap, key1, Rs.bind_ok, lE_ap, cells, Rs.bind_ok]
    simp only [srcOf_lst, Rs.ofO_some, Rs.bind_ok, get_cst]
    rw [if_pos (by rw [Pg.pls_ints]; rfl), any_cells]
    cases r.any fun a => decide (a.2 = key.2) <;> rfl
  unfold newE
  simp only [eOr_ap, eNot_ap, var_at h.v9, var_at h.v10, Rs.bind_ok]
  simp [test]
theorem due3 (h : Vok V n I R x y o k) {nw : Bool} (v12 : V[12]? = some (.val (.bl nw))) : dueE V S = .ok (.str (if o then (if k then (if nw then "let" else "there") else "key") else "output")) S := by
  have f := first3 "output" "key" "there" o k nw S
  unfold dueE
  refine call_at (xs := [.lst [pD "output" o, pD "key" k, pD "there" nw]]) (cons_at ?_ nil_at) f
  refine op_at (var_at h.v11) (y := .lst [pD "there" nw]) (frz_at (xs := [pD "there" nw]) ?_) ?_
  · rw [nLst_ap, cons_at (v := pD "there" nw) ?_ nil_at, Rs.bind_ok, if_pos (by rw [sizeLine_val]; simp)]
    simp [v12, pD]
  · simp [opAdd, Dn.listOf]
end
end L06

end
section
set_option Elab.async false
set_option linter.all false
set_option maxRecDepth 100000
set_option maxHeartbeats 4000000
namespace L06
open PySem Dn Pg
/-- dicts and instances stay -/
def Kp (S S' : Store) : Prop := ∀ (l : Nat) (o : SO), S[l]? = some o → (∀ xs, o ≠ SO.lst xs) → S'[l]? = some o
theorem Kp.fi {S S' : Store} (g : Kp S S') {x : D} (h : FI S x) : FI S' x := by
  cases h with
  | dt h => exact .dt h
  | dct h => exact .dct (g _ _ h fun _ z => by cases z)
  | ins h => exact .ins (g _ _ h fun _ z => by cases z)
theorem Gr.kp {S S' : Store} (hh : HandOk S 0) (g : Gr S S') : Kp S S' := fun l o h n => g.get (fun e => by
  obtain ⟨gs, p, d, s, c, h0, _⟩ := hh
  rw [e, h0] at h
  cases h
  exact n _ rfl) h
theorem Kp.trans {S S1 S2 : Store} (a : Kp S S1) (b : Kp S1 S2) : Kp S S2 := fun l o h n => b l o (a l o h n) n
theorem Kp.refl {S : Store} : Kp S S := fun _ _ h _ => h
/-- how a stage ends -/
structure En (S' : Store) (T' : Nat → Nat × Nat) (I R n b : Nat) : Prop where
  hand : HandOk S' 0
  t0 : T' 0 = (0, 9)
  one : ∃ L ls rows, One S' T' I R n b L ls rows
theorem cmpEq_str {S : Store} {a b : Str} (ha : PyData.strOk a = true) (hb : PyData.strOk b = true) : cmpEq S (.str a) (.str b) = some (a == b) := by
  show (if D.pl 64 (.str a) && D.pl 64 (.str b) then some (a == b) else none) = _
  rw [D.pl, D.pl, ha, hb]
  rfl
theorem sIf_let {V : Rho} {S : Store} {w : Str} {a : DS} (h : V[15]? = some (.val (.str w))) (hw : PyData.strOk w = true) (ne : (w = Str.ofString "let") = False) : sIf (tOfB (eCmp cmpEq (eVar 15) (eC (.str "let")))) a sNext V S = .next V S := by
  refine (if_f (b := sNext) (S' := S) ?_).trans (by rfl)
  rw [tOfB_ap, eCmp_ap, var_at h, Rs.bind_ok, eC_ap, Rs.bind_ok, cmpEq_str hw (by decide +kernel)]
  simp [ne]
theorem sIf_yes {V : Rho} {S : Store} {a : DS} (h : V[15]? = some (.val (.str "let"))) : sIf (tOfB (eCmp cmpEq (eVar 15) (eC (.str "let")))) a sNext V S = a V S := by
  refine if_t (S' := S) ?_
  rw [tOfB_ap, eCmp_ap, var_at h, Rs.bind_ok, eC_ap, Rs.bind_ok, cmpEq_str (by decide +kernel) (by decide +kernel)]
  simp
@[simp] theorem nl_output : (Str.ofString "output" = Str.ofString "let") = False := by simp only [eq_iff_iff, iff_false]; decide +kernel
@[simp] theorem nl_key : (Str.ofString "key" = Str.ofString "let") = False := by simp only [eq_iff_iff, iff_false]; decide +kernel
@[simp] theorem nl_there : (Str.ofString "there" = Str.ofString "let") = False := by simp only [eq_iff_iff, iff_false]; decide +kernel
@[simp] theorem nl_nothing : (Str.ofString "nothing" = Str.ofString "let") = False := by simp only [eq_iff_iff, iff_false]; decide +kernel
noncomputable def stA (rest : DS) : DS := sSeq (sSet 12 newE) (sSeq (sSet 15 dueE) (sSeq (sIf (tOfB (eCmp cmpNe (eHo (hoD 4 b__law_word) pushE) (eVar 15))) (sRet (eC (.bl false))) (sNext)) (sSeq (sIf (tOfB (eCmp cmpEq (eVar 15) (eC (.str "let")))) putS (sNext)) rest)))
section
variable {S : Store} {T : Nat → Nat × Nat} {I R n b L : Nat} {ls : List Nat} {rows : List (List Key)} {x y : D} {V : Rho} {o k : Bool}
/-- the start of the stage: what is due is told -/
theorem stA_start (h : Vok V n I R x y o k) {nw : Bool} (e : newE V S = .ok (.bl nw) S) (rest : DS) :
    ∃ V', stA rest V S = sSeq (sIf (tOfB (eCmp cmpNe (eHo (hoD 4 b__law_word) pushE) (eVar 15))) (sRet (eC (.bl false))) (sNext)) (sSeq (sIf (tOfB (eCmp cmpEq (eVar 15) (eC (.str "let")))) putS (sNext)) rest) V' S ∧ Vok V' n I R x y o k ∧
      V'[15]? = some (.val (.str (if o then (if k then (if nw then "let" else "there") else "key") else "output"))) := by
  have s1 := set_at (i := 12) e (by rw [h.len]; decide)
  have h1 := h.set (Nat.le_refl 12) (.val (.bl nw))
  have e2 := due3 (S := S) h1 (nw := nw) (by rw [List.getElem?_set_self (by rw [h.len]; decide)])
  have s2 := set_at (i := 15) e2 (by rw [h1.len]; decide)
  refine ⟨_, ?_, h1.set (i := 15) (by decide) _, by rw [List.getElem?_set_self (by rw [h1.len]; decide)]⟩
  unfold stA
  rw [seq_next s1, seq_next s2]
/-- the word is not "let": nothing is stored -/
theorem stA_no (hh : HandOk S 0) (t0 : T 0 = (0, 9)) (q : One S T I R n b L ls rows) (h : Vok V n I R x y o k) {w : Str} (hw : PyData.strOk w = true) (ne : (w = Str.ofString "let") = False) (v15 : V[15]? = some (.val (.str w))) {c : SO}
    (e : eHo (hoD 4 b__law_word) pushE V S = .ok (.str w) (S ++ [c])) (rest : DS) :
    sSeq (sIf (tOfB (eCmp cmpNe (eHo (hoD 4 b__law_word) pushE) (eVar 15))) (sRet (eC (.bl false))) (sNext)) (sSeq (sIf (tOfB (eCmp cmpEq (eVar 15) (eC (.str "let")))) putS (sNext)) rest) V S = rest V (S ++ [c]) ∧ En (S ++ [c]) T I R n (b + 1) ∧ Kp S (S ++ [c]) := by
  have g := Gr.app hh [c]
  refine ⟨?_, ⟨g.1, t0, L, ls, rows, (q.gr t0 g).frame (Nat.le_succ _) (fun _ _ _ => rfl) fun _ _ => rfl⟩, Gr.kp hh g⟩
  rw [seq_next (word_step hw e (var_at v15)), seq_next (sIf_let v15 hw ne)]
theorem push_act (q : One S T I R n b L ls rows) (h : Vok V n I R x y o k) : (fun S' => pushE (deexc V) S') S = m_Ideal_push [.ref I, x, y] S :=
  meth_at (var_at (deexc_val h.v4)) q.hI (look_ne (by decide +kernel)) (cons_at (var_at (deexc_val h.v6)) (cons_at (var_at (deexc_val h.v8)) nil_at))
theorem stageA (hh : HandOk S 0) (t0 : T 0 = (0, 9)) (q : One S T I R n b L ls rows) (hb : b ≤ 900) (hx : FI S x) (hy : FI S y) (h : Vok V n I R x y (wi x 0 ((n : Int) - 1)) (keyP y)) (rest : DS) :
    ∃ V' S' T', stA rest V S = rest V' S' ∧ Vok V' n I R x y (wi x 0 ((n : Int) - 1)) (keyP y) ∧ En S' T' I R n (b + 1) ∧ Kp S S' := by
  cases ho : wi x 0 ((n : Int) - 1) with
  | false =>
    rw [ho] at h
    obtain ⟨V', e1, h1, v15⟩ := stA_start h (new_no (S := S) h rfl) rest
    have e2 := push_out (y := y) q.hI q.hL hx (by rw [ls_len q]; exact ho)
    obtain ⟨c, e3⟩ := word_NoOutput ((push_act q h1).trans e2)
    obtain ⟨e4, en, kp⟩ := stA_no hh t0 q h1 (w := "output") (by decide +kernel) nl_output v15 e3 rest
    exact ⟨V', _, T, e1.trans e4, h1, en, kp⟩
  | true =>
    rw [ho] at h
    obtain ⟨j, rfl, hj⟩ := out_at ho
    obtain ⟨l, r, hl, hr, hl1, hl2, srt, len, kb⟩ := row_of q hj
    cases hk : keyP y with
    | false =>
      rw [hk] at h
      obtain ⟨V', e1, h1, v15⟩ := stA_start h (new_no (S := S) h rfl) rest
      have e2 := push_key q.hI q.hL (j := j) (by simpa [q.nl] using hj) hy hk
      obtain ⟨c, e3⟩ := word_NoKey ((push_act q h1).trans e2)
      obtain ⟨e4, en, kp⟩ := stA_no hh t0 q h1 (w := "key") (by decide +kernel) nl_key v15 e3 rest
      exact ⟨V', _, T, e1.trans e4, h1, en, kp⟩
    | true =>
      rw [hk] at h
      obtain ⟨key, rfl, k1, k2, k3⟩ := key_of hk
      have en1 := new_at q h hr
      cases hbb : (r.any fun a => decide (a.2 = key.2)) with
      | true =>
        rw [hbb] at en1
        obtain ⟨V', e1, h1, v15⟩ := stA_start h en1 rest
        have e2 := push_dup q.hI q.hL hl hl1 hbb k1 k2 k3
        obtain ⟨c, e3⟩ := word_KeyThere ((push_act q h1).trans e2)
        obtain ⟨e4, en, kp⟩ := stA_no hh t0 q h1 (w := "there") (by decide +kernel) nl_there v15 e3 rest
        exact ⟨V', _, T, e1.trans e4, h1, en, kp⟩
      | false =>
        rw [hbb] at en1
        obtain ⟨V', e1, h1, v15⟩ := stA_start h en1 rest
        have v15 : V'[15]? = some (.val (.str "let")) := v15
        have hne : ∀ a ∈ r, a.2 ≠ key.2 := fun a ha e => by
          have := List.any_eq_false.mp hbb a ha
          simp [e] at this
        have pe := push_ok q.hI q.hL hl hl1 srt hbb k1 k2 k3 (by omega)
        generalize hS2 : (S ++ [SO.lst ((insK r key).map keyD)]).set L (SO.lst ((ls.map D.ref).set j (.ref S.length))) = S2 at pe
        have e3 : eHo (hoD 4 b__law_word) pushE V' S = .ok (.str "let") S2 := word_let ((push_act q h1).trans pe)
        have lI := lt_of_get q.hI
        have lL := lt_of_get q.hL
        have lR := lt_of_get q.hR
        have l0 := hand_lt hh
        have n0 := q.n0 t0
        have nLR : L ≠ R := ne_of_tag q.tL q.tR (by simp)
        have nIL : I ≠ L := ne_of_tag q.tI q.tL (by simp)
        have nIR : I ≠ R := ne_of_tag q.tI q.tR (by simp)
        have n0L : 0 ≠ L := ne_of_tag t0 q.tL (by simp)
        have n0R : 0 ≠ R := ne_of_tag t0 q.tR (by simp)
        have old2 : ∀ x, x < S.length → x ≠ L → S2[x]? = S[x]? := fun x hx hne => by
          rw [← hS2, set_get_ne _ (Ne.symm hne), List.getElem?_append_left hx]
        have hR2 : S2[R]? = some (.lst (rows.map rowD)) := (old2 R lR nLR.symm).trans q.hR
        have hj1 : j < rows.length := by rw [q.nr]; exact hj
        have row2 : eIx (lE (eVar 5)) (eVar 6) V' S2 = .ok (rowD r) S2 := by
          have h4 : atD (rows.map rowD) (j : Int) = some (rowD r) := atD_nat (by simp [hr])
          rw [eIx_ap, lE_ap, var_at h1.v5, Rs.bind_ok, srcOf_ref hR2, Rs.ofO_some, Rs.bind_ok, var_at h1.v6, Rs.bind_ok]
          dsimp only
          rw [get_loc hR2, Option.bind_some, h4, Rs.ofO_some]
        have s3 := put_at (o := eVar 5) (k := eVar 6) (call_at (m := m__law_inserted) (cons_at row2 (cons_at (var_at h1.v8) nil_at)) (inserted_at srt (by omega))) (var_at h1.v5) (var_at h1.v6) hR2 (place_nat (by simpa using hj1))
        have s3 : putS V' S2 = .next V' (S2.set R (SO.lst ((rows.map rowD).set j (.lst ((insK r key).map keyD))))) := s3
        have t1 : ∀ x, x < S.length → (if x < S.length then T x else (I, 3 + j)) = T x := fun x hx => if_pos hx
        have l2 : S2.length = S.length + 1 := by rw [← hS2]; simp
        have nwL : S2[L]? = some (.lst ((ls.map D.ref).set j (.ref S.length))) := by
          rw [← hS2, set_get _ (by simp; omega)]
        refine ⟨V', S2.set R (SO.lst ((rows.map rowD).set j (.lst ((insK r key).map keyD)))), fun x => if x < S.length then T x else (I, 3 + j), e1.trans ?_, h1, ⟨?_, ?_, L, _, _, q.put (j := j) (l' := S.length) (r' := insK r key) t1 ?_ ?_ ?_ ?_ ?_ (fun x i hx hi hlx => ?_) (ins_srt srt hne) (by rw [ins_len]; omega) (fun k hk => ?_)⟩, fun a o ha no => ?_⟩
        · rw [seq_next (word_step (by decide +kernel) e3 (var_at v15)), seq_next ((sIf_yes v15).trans s3)]
        · exact hand_congr hh (by rw [set_get_ne _ n0R.symm, old2 0 l0 n0L])
        · exact (t1 0 l0).trans t0
        · rw [set_get_ne _ nIR.symm, old2 I lI nIL]
        · rw [set_get_ne _ nLR.symm, nwL, List.map_set]
        · rw [set_get _ (by omega), List.map_set]
          rfl
        · rw [set_get_ne _ (by omega), ← hS2, set_get_ne _ (by omega), List.getElem?_append_right (Nat.le_refl _), Nat.sub_self]
          rfl
        · exact if_neg (by omega)
        · have nxR : R ≠ x := ne_of_tag q.tR hx (by simp; omega)
          have nxL : x ≠ L := ne_of_tag hx q.tL (by simp; omega)
          rw [set_get_ne _ nxR, old2 x hlx nxL]
        · rcases List.mem_append.mp ((ins_perm r key).mem_iff.mp hk) with z | z
          · exact kb k z
          · rw [List.mem_singleton.mp z]; exact ⟨k1, k2, k3⟩
        · have aR : a ≠ R := fun e => by rw [e, q.hR] at ha; cases ha; exact no _ rfl
          have aL : a ≠ L := fun e => by rw [e, q.hL] at ha; cases ha; exact no _ rfl
          rw [set_get_ne _ aR.symm, old2 a (lt_of_get ha) aL, ha]
end
end L06

end
section
set_option Elab.async false
set_option linter.all false
set_option maxRecDepth 100000
set_option maxHeartbeats 4000000
namespace L06
open PySem Dn Pg
theorem same_set {a : Type} {ls : List a} {j : Nat} {l : a} (hl : ls[j]? = some l) : ls.set j l = ls := by
  apply List.ext_getElem?
  intro i
  by_cases e : j = i
  · subst e
    rw [List.getElem?_set_self (List.getElem?_eq_some_iff.mp hl).1, hl]
  · rw [List.getElem?_set_ne e]
noncomputable def due2E : DE := eCall m__law_first (aCons (eOp opAdd (eSlice (lE (eVar 11)) oNone (oSome (eC (.int 1)))) (eFrz (nLst (aCons (eTup (aCons (eC (.str "nothing")) (aCons (eAnd (eVar 9) (eCmp (fun _ => cmpI iGt) (eLen (lE (eIx (lE (eVar 5)) (eVar 6)))) (eC (.int 0)))) (aNil)))) (aNil))))) (aNil))
noncomputable def goE : DE := eMeth "Ideal" "let_go" m_Ideal_let_go (eVar 4) (aCons (eVar 6) (aNil))
noncomputable def put2S : DS := sPutR (eVar 5) (eVar 6) (eSlice (lE (eIx (lE (eVar 5)) (eVar 6))) (oSome (eC (.int 1))) oNone)
noncomputable def stB : DS := sSeq (sSet 15 due2E) (sSeq (sIf (tOfB (eCmp cmpNe (eHo (hoD 4 b__law_word) goE) (eVar 15))) (sRet (eC (.bl false))) (sNext)) (sIf (tOfB (eCmp cmpEq (eVar 15) (eC (.str "let")))) put2S (sNext)))
section
variable {S : Store} {T : Nat → Nat × Nat} {I R n b L : Nat} {ls : List Nat} {rows : List (List Key)} {x y : D} {V : Rho} {o k : Bool}
theorem due2 (h : Vok V n I R x y o k) {p : Bool} (e : eAnd (eVar 9) (eCmp (fun _ => cmpI iGt) (eLen (lE (eIx (lE (eVar 5)) (eVar 6)))) (eC (.int 0))) V S = .ok (.bl p) S) : due2E V S = .ok (.str (if o then (if p then "let" else "nothing") else "output")) S := by
  have f := first2 "output" "nothing" o p S
  unfold due2E
  refine call_at (xs := [.lst [pD "output" o, pD "nothing" p]]) (cons_at ?_ nil_at) f
  refine op_at (S' := S) (x := .lst [pD "output" o]) (y := .lst [pD "nothing" p]) ?_ (frz_at (xs := [pD "nothing" p]) ?_) ?_
  · simp [h.v11, cutD, cutAt]
  · rw [nLst_ap, cons_at (v := pD "nothing" p) ?_ nil_at, Rs.bind_ok, if_pos (by rw [sizeLine_val]; simp)]
    rw [eTup_ap, cons_at (v := .str "nothing") rfl (cons_at e nil_at), Rs.bind_ok, if_pos (by rw [sizeLine_val]; simp)]
    rfl
  · simp [opAdd, Dn.listOf]
theorem go_act (q : One S T I R n b L ls rows) (h : Vok V n I R x y o k) : (fun S' => goE (deexc V) S') S = m_Ideal_let_go [.ref I, x] S :=
  meth_at (var_at (deexc_val h.v4)) q.hI (look_ne (by decide +kernel)) (cons_at (var_at (deexc_val h.v6)) nil_at)
theorem stageB (hh : HandOk S 0) (t0 : T 0 = (0, 9)) (q : One S T I R n b L ls rows) (hx : FI S x) (h : Vok V n I R x y (wi x 0 ((n : Int) - 1)) k) :
    ∃ V' S', stB V S = .next V' S' ∧ Vok V' n I R x y (wi x 0 ((n : Int) - 1)) k ∧ En S' T I R n (b + 1) ∧ Kp S S' := by
  cases ho : wi x 0 ((n : Int) - 1) with
  | false =>
    rw [ho] at h
    have e1 := due2 (S := S) h (p := false) (by simp [h.v9])
    have s1 := set_at (i := 15) e1 (by rw [h.len]; decide)
    have h1 := h.set (i := 15) (by decide) (.val (.str "output"))
    have v15 : (V.set 15 (.val (.str "output")))[15]? = some (.val (.str "output")) := by rw [List.getElem?_set_self (by rw [h.len]; decide)]
    have e2 := let_go_out q.hI q.hL hx (by rw [ls_len q]; exact ho)
    obtain ⟨c, e3⟩ := word_NoOutput ((go_act q h1).trans e2)
    have g := Gr.app hh [c]
    refine ⟨_, _, ?_, h1, ⟨g.1, t0, L, ls, rows, (q.gr t0 g).frame (Nat.le_succ _) (fun _ _ _ => rfl) fun _ _ => rfl⟩, Gr.kp hh g⟩
    unfold stB
    rw [seq_next s1]
    exact (seq_next (word_step (by decide +kernel) e3 (var_at v15))).trans (sIf_let v15 (by decide +kernel) nl_output)
  | true =>
    rw [ho] at h
    obtain ⟨j, rfl, hj⟩ := out_at ho
    obtain ⟨l, r, hl, hr, hl1, hl2, srt, len, kb⟩ := row_of q hj
    have row := rowV q hr h.v5 h.v6
    have ln : eLen (lE (eIx (lE (eVar 5)) (eVar 6))) V S = .ok (.int r.length) S := by
      rw [eLen_ap, lE_ap, row, Rs.bind_ok]
      simp [rowD]
    have ea : eAnd (eVar 9) (eCmp (fun _ => cmpI iGt) (eLen (lE (eIx (lE (eVar 5)) (eVar 6)))) (eC (.int 0))) V S = .ok (.bl (decide (0 < (r.length : Int)))) S := by
      rw [eAnd_ap, var_at h.v9, Rs.bind_ok, eCmp_ap, ln]
      simp
    have e1 := due2 h ea
    have s1 := set_at (i := 15) e1 (by rw [h.len]; decide)
    cases r with
    | nil =>
      have h1 := h.set (i := 15) (by decide) (.val (.str "nothing"))
      have v15 : (V.set 15 (.val (.str "nothing")))[15]? = some (.val (.str "nothing")) := by rw [List.getElem?_set_self (by rw [h.len]; decide)]
      have e2 := let_go_no q.hI q.hL hl (by simpa using hl1)
      obtain ⟨c, e3⟩ := word_NothingThere ((go_act q h1).trans e2)
      have g := Gr.app hh [c]
      refine ⟨_, _, ?_, h1, ⟨g.1, t0, L, ls, rows, (q.gr t0 g).frame (Nat.le_succ _) (fun _ _ _ => rfl) fun _ _ => rfl⟩, Gr.kp hh g⟩
      unfold stB
      rw [seq_next s1]
      exact (seq_next (word_step (by decide +kernel) e3 (var_at v15))).trans (sIf_let v15 (by decide +kernel) nl_nothing)
    | cons a r1 =>
      have hpos : decide ((0 : Int) < ((a :: r1).length : Int)) = true := by simp
      rw [hpos] at s1
      have h1 := h.set (i := 15) (by decide) (.val (.str "let"))
      have v15 : (V.set 15 (.val (.str "let")))[15]? = some (.val (.str "let")) := by rw [List.getElem?_set_self (by rw [h.len]; decide)]
      have s1 : sSet 15 due2E V S = .next (V.set 15 (.val (.str "let"))) S := s1
      generalize V.set 15 (.val (.str "let")) = V' at s1 h1 v15
      have pe := let_go_ok q.hI q.hL hl (x := keyD a) (xs := r1.map keyD) (by simpa using hl1)
      have lI := lt_of_get q.hI
      have lL := lt_of_get q.hL
      have lR := lt_of_get q.hR
      have ll := lt_of_get hl1
      have nlR : l ≠ R := ne_of_tag hl2 q.tR (by simp; omega)
      have nlL : l ≠ L := ne_of_tag hl2 q.tL (by simp; omega)
      have nlI : l ≠ I := ne_of_tag hl2 q.tI (by simp)
      have nLR : L ≠ R := ne_of_tag q.tL q.tR (by simp)
      have nIR : I ≠ R := ne_of_tag q.tI q.tR (by simp)
      have n0l : 0 ≠ l := ne_of_tag t0 hl2 fun e => q.n0 t0 (congrArg Prod.fst e).symm
      have n0R : 0 ≠ R := ne_of_tag t0 q.tR (by simp)
      generalize hS2 : S.set l (SO.lst (r1.map keyD)) = S2 at pe
      have e3 : eHo (hoD 4 b__law_word) goE V' S = .ok (.str "let") S2 := word_let ((go_act q h1).trans pe)
      have old2 : ∀ x, x ≠ l → S2[x]? = S[x]? := fun x hne => by rw [← hS2, set_get_ne _ (Ne.symm hne)]
      have l2 : S2.length = S.length := by rw [← hS2]; simp
      have hR2 : S2[R]? = some (.lst (rows.map rowD)) := (old2 R nlR.symm).trans q.hR
      have hj1 : j < rows.length := by rw [q.nr]; exact hj
      have row2 : eIx (lE (eVar 5)) (eVar 6) V' S2 = .ok (rowD (a :: r1)) S2 := by
        have h4 : atD (rows.map rowD) (j : Int) = some (rowD (a :: r1)) := atD_nat (by simp [hr])
        rw [eIx_ap, lE_ap, var_at h1.v5, Rs.bind_ok, srcOf_ref hR2, Rs.ofO_some, Rs.bind_ok, var_at h1.v6, Rs.bind_ok]
        dsimp only
        rw [get_loc hR2, Option.bind_some, h4, Rs.ofO_some]
      have e4 : eSlice (lE (eIx (lE (eVar 5)) (eVar 6))) (oSome (eC (.int 1))) oNone V' S2 = .ok (rowD r1) S2 := by
        rw [eSlice_ap, lE_ap, row2, Rs.bind_ok]
        show (Rs.ofO (some (Src.cst false ((a :: r1).map keyD))) S2).bind _ = _
        rw [Rs.ofO_some, Rs.bind_ok]
        show (Rs.ok (some (((1 : Nat) : Int))) S2).bind _ = _
        rw [Rs.bind_ok, oNone_ap, Rs.bind_ok, get_cst, Rs.ofO_some, Rs.bind_ok, cut_drop (by simp)]
        rfl
      have s3 : put2S V' S2 = .next V' (S2.set R (SO.lst ((rows.map rowD).set j (rowD r1)))) := put_at (o := eVar 5) (k := eVar 6) e4 (var_at h1.v5) (var_at h1.v6) hR2 (place_nat (by simpa using hj1))
      refine ⟨V', S2.set R (SO.lst ((rows.map rowD).set j (rowD r1))), ?_, h1, ⟨?_, t0, L, _, _, q.put (j := j) (l' := l) (r' := r1) (fun _ _ => rfl) ?_ ?_ ?_ ?_ hl2 (fun x i hx hi hlx => ?_) (List.pairwise_cons.mp srt).2 (by simp at len; omega) fun k hk => kb k (List.mem_cons_of_mem _ hk)⟩, fun c u hc no => ?_⟩
      · unfold stB
        rw [seq_next s1]
        exact (seq_next (word_step (by decide +kernel) e3 (var_at v15))).trans ((sIf_yes v15).trans s3)
      · exact hand_congr hh (by rw [set_get_ne _ n0R.symm, old2 0 n0l])
      · rw [set_get_ne _ nIR.symm, old2 I nlI.symm]
      · rw [set_get_ne _ nLR.symm, old2 L nlL.symm, q.hL, same_set hl]
      · rw [set_get _ (by omega), List.map_set]
      · rw [set_get_ne _ nlR.symm, ← hS2, set_get _ ll]
      · have nxR : R ≠ x := ne_of_tag q.tR hx (by simp; omega)
        have nxl : x ≠ l := ne_of_tag hx hl2 (by simp; omega)
        rw [set_get_ne _ nxR, old2 x nxl]
      · have cR : c ≠ R := fun e => by rw [e, q.hR] at hc; cases hc; exact no _ rfl
        have cl : c ≠ l := fun e => by rw [e, hl1] at hc; cases hc; exact no _ rfl
        rw [set_get_ne _ cR.symm, old2 c cl, hc]
end
end L06

end
section
set_option Elab.async false
set_option linter.all false
set_option maxRecDepth 100000
set_option maxHeartbeats 4000000
namespace L06
open PySem Dn Pg
noncomputable def turnB : DS := sSeq (sAsg (eTup (aCons (eCall m__law_any (aCons (eVar 1) (aCons (eFrz (nLst (aCons (eC (.int 0)) (aCons (eOp (fun _ => opSub) (eVar 3) (eC (.int 1))) (aCons (eVar 3) (aCons (eUn opNeg (eC (.int 1))) (aCons (eCall m__law_odd (aCons (eVar 1) (aCons (eVar 4) (aNil)))) (aNil)))))))) (aNil)))) (aCons (eCall m__law_some_key (aCons (eVar 1) (aCons (eVar 4) (aNil)))) (aNil)))) (gTupD 2 (gsCons (gNameD 6) (gsCons (gNameD 8) (gsNil))))) (sSeq (sPar 9 10 (eCall m__law_is_int (aCons (eVar 6) (aCons (eC (.int 0)) (aCons (eOp (fun _ => opSub) (eVar 3) (eC (.int 1))) (aNil))))) (eCall m__law_is_key (aCons (eVar 8) (aNil)))) (sSeq (sSet 11 (eFrz (nLst (aCons (eTup (aCons (eC (.str "output")) (aCons (eVar 9) (aNil)))) (aCons (eTup (aCons (eC (.str "key")) (aCons (eVar 10) (aNil)))) (aNil)))))) (sSeq (sIf (tOfB (eCmp cmpNe (eHo (hoD 4 b__law_word) (eMeth "Ideal" "due" m_Ideal_due (eVar 4) (aCons (eVar 6) (aNil)))) (eCall m__law_first (aCons (eSlice (lE (eVar 11)) oNone (oSome (eC (.int 1)))) (aNil))))) (sRet (eC (.bl false))) (sNext)) (sSeq (sIf (tOfB (eCmp cmpNe (eHo (hoD 4 b__law_word) (eMeth "Ideal" "held" m_Ideal_held (eVar 4) (aCons (eVar 6) (aNil)))) (eCall m__law_first (aCons (eSlice (lE (eVar 11)) oNone (oSome (eC (.int 1)))) (aNil))))) (sRet (eC (.bl false))) (sNext)) (sSeq (sIf (tOfB (eCmp cmpNe (eHo (hoD 4 b__law_word) (eMeth "Ideal" "ahead" m_Ideal_ahead (eVar 4) (aCons (eVar 6) (aCons (eVar 8) (aNil))))) (eCall m__law_first (aCons (eVar 11) (aNil))))) (sRet (eC (.bl false))) (sNext)) (sSeq (sSet 12 (eOr (eNot (eVar 9)) (eOr (eNot (eVar 10)) (eIn true (eIx (lE (eVar 8)) (eC (.int 1))) (lE (eFrz (nLc (iSeqD (eIx (lE (eVar 5)) (eVar 6))) (gTupD 2 (gsCons (gNameD 13) (gsCons (gNameD 14) (gsNil)))) (tYesD) (eVar 14) [13, 14]))))))) (sSeq (sSet 15 (eCall m__law_first (aCons (eOp opAdd (eVar 11) (eFrz (nLst (aCons (eTup (aCons (eC (.str "there")) (aCons (eVar 12) (aNil)))) (aNil))))) (aNil)))) (sSeq (sIf (tOfB (eCmp cmpNe (eHo (hoD 4 b__law_word) (eMeth "Ideal" "push" m_Ideal_push (eVar 4) (aCons (eVar 6) (aCons (eVar 8) (aNil))))) (eVar 15))) (sRet (eC (.bl false))) (sNext)) (sSeq (sIf (tOfB (eCmp cmpEq (eVar 15) (eC (.str "let")))) (sPutR (eVar 5) (eVar 6) (eCall m__law_inserted (aCons (eIx (lE (eVar 5)) (eVar 6)) (aCons (eVar 8) (aNil))))) (sNext)) (sSeq (sIf (tOfB (eCmp cmpEq (eCall m__law_draw (aCons (eVar 1) (aCons (eC (.int 3)) (aNil)))) (eC (.int 0)))) (sSeq (sSet 15 (eCall m__law_first (aCons (eOp opAdd (eSlice (lE (eVar 11)) oNone (oSome (eC (.int 1)))) (eFrz (nLst (aCons (eTup (aCons (eC (.str "nothing")) (aCons (eAnd (eVar 9) (eCmp (fun _ => cmpI iGt) (eLen (lE (eIx (lE (eVar 5)) (eVar 6)))) (eC (.int 0)))) (aNil)))) (aNil))))) (aNil)))) (sSeq (sIf (tOfB (eCmp cmpNe (eHo (hoD 4 b__law_word) (eMeth "Ideal" "let_go" m_Ideal_let_go (eVar 4) (aCons (eVar 6) (aNil)))) (eVar 15))) (sRet (eC (.bl false))) (sNext)) (sIf (tOfB (eCmp cmpEq (eVar 15) (eC (.str "let")))) (sPutR (eVar 5) (eVar 6) (eSlice (lE (eIx (lE (eVar 5)) (eVar 6))) (oSome (eC (.int 1))) oNone)) (sNext)))) (sNext)) (sIf (tOfB (eCmp cmpNe (eFrz (nLc (iRange1 (eVar 3)) (gNameD 16) (tYesD) (eMeth "Ideal" "held" m_Ideal_held (eVar 4) (aCons (eVar 16) (aNil))) [16])) (eFrz (nLc (iSeqD (eVar 5)) (gNameD 17) (tYesD) (eTupOf (lE (eVar 17))) [17])))) (sRet (eC (.bl false))) (sNext))))))))))))
noncomputable def stC : DS := sIf (tOfB (eCmp cmpNe (eFrz (nLc (iRange1 (eVar 3)) (gNameD 16) (tYesD) (eMeth "Ideal" "held" m_Ideal_held (eVar 4) (aCons (eVar 16) (aNil))) [16])) (eFrz (nLc (iSeqD (eVar 5)) (gNameD 17) (tYesD) (eTupOf (lE (eVar 17))) [17])))) (sRet (eC (.bl false))) (sNext)
noncomputable def drawS (a : DS) : DS := sIf (tOfB (eCmp cmpEq (eCall m__law_draw (aCons (eVar 1) (aCons (eC (.int 3)) (aNil)))) (eC (.int 0)))) a sNext
theorem law_eq : b_law = sSeq (sSet 1 (eCall m__law_hand (aCons (eVar 0) (aNil)))) (sSeq (sSet 2 (eCall m__law_any (aCons (eVar 1) (aCons (eFrz (nLst (aCons (eC (.int 0)) (aCons (eC (.int 1)) (aCons (eC (.int 12)) (aCons (eC (.int 13)) (aCons (eC (.int 5)) (aCons (eCall m__law_odd (aCons (eVar 1) (aCons (eC .non) (aNil)))) (aNil))))))))) (aNil))))) (sSeq (sIf (tOfB (eCmp cmpNe (eHo (hoD 4 b__law_word) (eMake "Ideal" m_Ideal_init (aCons (eVar 2) (aNil)))) (eIf (tOfB (eCall m__law_is_int (aCons (eVar 2) (aCons (eC (.int 1)) (aCons (eC (.int 12)) (aNil)))))) (eC (.str "let")) (eC (.str "lines"))))) (sRet (eC (.bl false))) (sNext)) (sSeq (sSet 3 (eCall m__law_any (aCons (eVar 1) (aCons (eFrz (nLst (aCons (eC (.int 1)) (aCons (eC (.int 3)) (aCons (eC (.int 12)) (aNil)))))) (aNil))))) (sSeq (sAsg (eTup (aCons (eMake "Ideal" m_Ideal_init (aCons (eVar 3) (aNil))) (aCons (eNew (nLc (iRange1 (eVar 3)) (gNameD 6) (tYesD) (eFrz (nLst (aNil))) [6])) (aNil)))) (gTupD 2 (gsCons (gNameD 4) (gsCons (gNameD 5) (gsNil))))) (sSeq (sFor (iRange1 (eC (.int 10))) (gNameD 7) turnB) (sRet (eC (.bl true)))))))) := rfl
theorem turn_eq : turnB = sSeq (sAsg (eTup (aCons (eCall m__law_any (aCons (eVar 1) (aCons (eFrz (nLst (aCons (eC (.int 0)) (aCons (eOp (fun _ => opSub) (eVar 3) (eC (.int 1))) (aCons (eVar 3) (aCons (eUn opNeg (eC (.int 1))) (aCons (eCall m__law_odd (aCons (eVar 1) (aCons (eVar 4) (aNil)))) (aNil)))))))) (aNil)))) (aCons (eCall m__law_some_key (aCons (eVar 1) (aCons (eVar 4) (aNil)))) (aNil)))) (gTupD 2 (gsCons (gNameD 6) (gsCons (gNameD 8) (gsNil))))) (sSeq (sPar 9 10 (eCall m__law_is_int (aCons (eVar 6) (aCons (eC (.int 0)) (aCons (eOp (fun _ => opSub) (eVar 3) (eC (.int 1))) (aNil))))) (eCall m__law_is_key (aCons (eVar 8) (aNil)))) (sSeq (sSet 11 (eFrz (nLst (aCons (eTup (aCons (eC (.str "output")) (aCons (eVar 9) (aNil)))) (aCons (eTup (aCons (eC (.str "key")) (aCons (eVar 10) (aNil)))) (aNil)))))) (sSeq (sIf (tOfB (eCmp cmpNe (eHo (hoD 4 b__law_word) (eMeth "Ideal" "due" m_Ideal_due (eVar 4) (aCons (eVar 6) (aNil)))) (eCall m__law_first (aCons (eSlice (lE (eVar 11)) oNone (oSome (eC (.int 1)))) (aNil))))) (sRet (eC (.bl false))) (sNext)) (sSeq (sIf (tOfB (eCmp cmpNe (eHo (hoD 4 b__law_word) (eMeth "Ideal" "held" m_Ideal_held (eVar 4) (aCons (eVar 6) (aNil)))) (eCall m__law_first (aCons (eSlice (lE (eVar 11)) oNone (oSome (eC (.int 1)))) (aNil))))) (sRet (eC (.bl false))) (sNext)) (sSeq (sIf (tOfB (eCmp cmpNe (eHo (hoD 4 b__law_word) (eMeth "Ideal" "ahead" m_Ideal_ahead (eVar 4) (aCons (eVar 6) (aCons (eVar 8) (aNil))))) (eCall m__law_first (aCons (eVar 11) (aNil))))) (sRet (eC (.bl false))) (sNext)) (stA (sSeq (drawS stB) stC))))))) := rfl
structure Vk (V : Rho) (n I R : Nat) : Prop where
  len : V.length = 18
  v1 : V[1]? = some (.val (.ref 0))
  v3 : V[3]? = some (.val (.int n))
  v4 : V[4]? = some (.val (.ref I))
  v5 : V[5]? = some (.val (.ref R))
def tupD (r : List Key) : D := .tup (r.map keyD)
theorem eq_tups : ∀ rows : List (List Key), eqDs (rows.map tupD) (rows.map tupD) = true
  | [] => rfl
  | r :: rows => by simp [eqDs, tupD, eqD, eq_keys r, eq_tups rows]
theorem pl_tups : ∀ rows : List (List Key), D.pls 63 (rows.map tupD) = true
  | [] => rfl
  | r :: rows => by simp [D.pls, pl_tups rows, tupD, D.pl, pl_keys r]
theorem rangeD_nat' (n : Nat) : rangeD 0 (n : Int) = (List.range n).map fun (k : Nat) => D.int (k : Int) := by
  simp [rangeD]
section
variable {S : Store} {T : Nat → Nat × Nat} {I R n b L : Nat} {ls : List Nat} {rows : List (List Key)} {x y : D} {V : Rho} {o k : Bool}
theorem stageC (q : One S T I R n b L ls rows) (hn : n ≤ 12) (h : Vok V n I R x y o k) : stC V S = .next V S := by
  have e1 : eFrz (nLc (iRange1 (eVar 3)) (gNameD 16) (tYesD) (eMeth "Ideal" "held" m_Ideal_held (eVar 4) (aCons (eVar 16) (aNil))) [16]) V S = .ok (.lst (rows.map tupD)) S := by
    refine frz_at (lc_at (iRange1_nat (n := n) (by omega) (var_at h.v3)) ?_)
    refine lcGo_pure trivial (by simp [q.nr, rangeD]) fun j x y hx hy => ?_
    rw [rangeD_nat'] at hx
    obtain ⟨j2, hj2, rfl⟩ := get_map hx
    obtain ⟨r0, hr0, rfl⟩ := get_map hy
    have hjn : j < n := by
      have := (List.getElem?_eq_some_iff.mp hr0).1
      rw [q.nr] at this
      exact this
    have hj3 : j2 = j := by
      rw [List.getElem?_range hjn] at hj2
      exact (Option.some.inj hj2).symm
    subst hj3
    obtain ⟨l, hl⟩ : ∃ l, ls[j2]? = some l := ⟨ls[j2]'(by rw [q.nl]; exact hjn), by simp [q.nl, hjn]⟩
    have hh := held_ok q.hI q.hL hl (q.row j2 l r0 hl hr0).1
    refine ⟨(wipeD V [16]).set 16 (.val (.int j2)), by simp [gNameD, wipeD, h.len], rfl, ?_⟩
    have a13 : ((wipeD V [16]).set 16 (.val (.int j2)))[4]? = some (.val (.ref I)) := slot_old (by decide) (slot_old (by decide) h.v4)
    have a4 : ((wipeD V [16]).set 16 (.val (.int j2)))[16]? = some (.val (.int j2)) := slot_new (by simp [wipeD, h.len])
    rw [meth_at (var_at a13) q.hI (look_ne (by decide +kernel)) (cons_at (var_at a4) nil_at)]
    exact hh
  have e2 : eFrz (nLc (iSeqD (eVar 5)) (gNameD 17) (tYesD) (eTupOf (lE (eVar 17))) [17]) V S = .ok (.lst (rows.map tupD)) S := by
    refine frz_at (lc_at (wk := ⟨rows.map rowD, fun S => S[R]? = some (.lst (rows.map rowD))⟩) (S' := S) ?_ ?_)
    · rw [iSeqD_ap, var_at h.v5, Rs.bind_ok]
      simp [wkOf, q.hR]
    · refine lcGo_pure q.hR (by simp) fun j x y hx hy => ?_
      obtain ⟨r0, hr0, rfl⟩ := get_map hx
      obtain ⟨r1, hr1, rfl⟩ := get_map hy
      rw [hr0] at hr1
      cases hr1
      refine ⟨(wipeD V [17]).set 17 (.val (rowD r0)), by simp [gNameD, wipeD, h.len], rfl, ?_⟩
      have a14 : ((wipeD V [17]).set 17 (.val (rowD r0)))[17]? = some (.val (rowD r0)) := slot_new (by simp [wipeD, h.len])
      rw [eTupOf_ap, lE_ap, var_at a14, Rs.bind_ok]
      rfl
  refine (if_f (b := sNext) (S' := S) ?_).trans (by rfl)
  rw [tOfB_ap, eCmp_ap, e1, Rs.bind_ok, e2, Rs.bind_ok, cmpNe_self (S := S) (d := .lst (rows.map tupD)) (by simp only [flatL, D.pl]; exact pl_tups rows) (by simp only [flatL, eqD]; exact eq_tups rows)]
  rfl
theorem En.more (h : En S T I R n b) : En S T I R n (b + 1) := let ⟨L, ls, rows, q⟩ := h.one; ⟨h.hand, h.t0, L, ls, rows, q.frame (Nat.le_succ _) (fun _ _ _ => rfl) fun _ _ => rfl⟩
theorem En.gr {S' : Store} (h : En S T I R n b) (g : Gr S S') : En S' T I R n b := let ⟨L, ls, rows, q⟩ := h.one; ⟨g.1, h.t0, L, ls, rows, q.gr h.t0 g⟩
theorem ifw {c : Bool} {a d : Str} (ha : PyData.strOk a = true) (hd : PyData.strOk d = true) : PyData.strOk (if c then a else d) = true := by cases c <;> assumption
theorem turn_at (h : En S T I R n b) (hb : b ≤ 890) (hn1 : 1 ≤ n) (hn : n ≤ 12) (hV : Vk V n I R) : ∃ V' S' T', turnB V S = .next V' S' ∧ Vk V' n I R ∧ En S' T' I R n (b + 2) := by
  obtain ⟨L, ls, rows, q⟩ := h.one
  have ov : Ov S (.ref I) := ⟨.ins q.hI, rfl⟩
  obtain ⟨od, S1, e1, g1, o1⟩ := odd_ok h.hand ov
  have q1 := q.gr h.t0 g1
  obtain ⟨u, x, S2, e2, d2, hx⟩ := any_lst (xs := [.int 0, .int ((n : Int) - 1), .int n, .int (-1), od]) g1.1 (by simp) (by simp)
  have g2 := Gr.dr d2
  have q2 := q1.gr h.t0 g2
  have ox : Ov S2 x := by
    have := List.mem_of_getElem? hx
    simp only [List.mem_cons, List.not_mem_nil, or_false] at this
    rcases this with rfl | rfl | rfl | rfl | rfl
    · exact ov_dt rfl rfl
    · exact ov_dt rfl rfl
    · exact ov_dt rfl rfl
    · exact ov_dt rfl rfl
    · exact g2.ov g1.1 o1
  obtain ⟨y, S3, e3, g3, oy⟩ := some_key_ok g2.1 (other := .ref I) ⟨.ins q2.hI, rfl⟩
  have ox3 := g3.ov g2.1 ox
  have q3 := q2.gr h.t0 g3
  have ex : eCall m__law_any (aCons (eVar 1) (aCons (eFrz (nLst (aCons (eC (.int 0)) (aCons (eOp (fun _ => opSub) (eVar 3) (eC (.int 1))) (aCons (eVar 3) (aCons (eUn opNeg (eC (.int 1))) (aCons (eCall m__law_odd (aCons (eVar 1) (aCons (eVar 4) (aNil)))) (aNil)))))))) (aNil))) V S = .ok x S2 := by
    simp [hV.v1, hV.v3, hV.v4, e1, opSub, e2]
  have ey : eCall m__law_some_key (aCons (eVar 1) (aCons (eVar 4) (aNil))) V S2 = .ok y S3 := call_at (cons_at (var_at hV.v1) (cons_at (var_at hV.v4) nil_at)) e3
  have s1 : sAsg (eTup (aCons (eCall m__law_any (aCons (eVar 1) (aCons (eFrz (nLst (aCons (eC (.int 0)) (aCons (eOp (fun _ => opSub) (eVar 3) (eC (.int 1))) (aCons (eVar 3) (aCons (eUn opNeg (eC (.int 1))) (aCons (eCall m__law_odd (aCons (eVar 1) (aCons (eVar 4) (aNil)))) (aNil)))))))) (aNil)))) (aCons (eCall m__law_some_key (aCons (eVar 1) (aCons (eVar 4) (aNil)))) (aNil)))) (gTupD 2 (gsCons (gNameD 6) (gsCons (gNameD 8) (gsNil)))) V S = .next ((V.set 6 (.val x)).set 8 (.val y)) S3 := by
    rw [sAsg_ap, eTup_ap, cons_at ex (cons_at ey nil_at), Rs.bind_ok, if_pos (by rw [sizeLine_val]; simp)]
    simp [gTupD, gsCons, gsNil, gNameD, hV.len]
  have f1 := law_int_fi ox3.1 0 ((n : Int) - 1)
  have f2 := law_key_fi oy.1
  rw [← oy.2] at f2
  have s2 : sPar 9 10 (eCall m__law_is_int (aCons (eVar 6) (aCons (eC (.int 0)) (aCons (eOp (fun _ => opSub) (eVar 3) (eC (.int 1))) (aNil))))) (eCall m__law_is_key (aCons (eVar 8) (aNil))) ((V.set 6 (.val x)).set 8 (.val y)) S3 = .next ((((V.set 6 (.val x)).set 8 (.val y)).set 9 (.val (.bl (wi x 0 ((n : Int) - 1))))).set 10 (.val (.bl (keyP y)))) S3 := by
    have u3 : ((V.set 6 (.val x)).set 8 (.val y))[3]? = some (.val (.int n)) := slot_old (by decide) (slot_old (by decide) hV.v3)
    have u6 : ((V.set 6 (.val x)).set 8 (.val y))[6]? = some (.val x) := slot_old (by decide) (slot_new (by rw [hV.len]; decide))
    have u8 : ((V.set 6 (.val x)).set 8 (.val y))[8]? = some (.val y) := slot_new (by rw [List.length_set, hV.len]; decide)
    rw [sPar_ap, call_at (cons_at (var_at u6) (cons_at (e := eC (.int 0)) (v := .int 0) rfl (cons_at (v := .int ((n : Int) - 1)) (op_at (var_at u3) (y := .int 1) rfl (by simp [opSub])) nil_at))) f1, Rs.toS_ok, call_at (cons_at (var_at u8) nil_at) f2, Rs.toS_ok, if_pos (by simp [hV.len])]
  generalize hW : (((V.set 6 (.val x)).set 8 (.val y)).set 9 (.val (.bl (wi x 0 ((n : Int) - 1))))).set 10 (.val (.bl (keyP y))) = W at s2
  have w9 : W[9]? = some (.val (.bl (wi x 0 ((n : Int) - 1)))) := by rw [← hW]; simp [List.getElem?_set, hV.len]
  have w10 : W[10]? = some (.val (.bl (keyP y))) := by rw [← hW]; simp [List.getElem?_set, hV.len]
  have wl : W.length = 18 := by rw [← hW]; simp [hV.len]
  have s3 : sSet 11 (eFrz (nLst (aCons (eTup (aCons (eC (.str "output")) (aCons (eVar 9) (aNil)))) (aCons (eTup (aCons (eC (.str "key")) (aCons (eVar 10) (aNil)))) (aNil))))) W S3 = .next (W.set 11 (.val (.lst [pD "output" (wi x 0 ((n : Int) - 1)), pD "key" (keyP y)]))) S3 := by
    have t1 : eTup (aCons (eC (.str "output")) (aCons (eVar 9) aNil)) W S3 = .ok (pD "output" (wi x 0 ((n : Int) - 1))) S3 := by
      rw [eTup_ap, cons_at (v := .str "output") rfl (cons_at (var_at w9) nil_at), Rs.bind_ok, if_pos (by rw [sizeLine_val]; simp)]
      rfl
    have t2 : eTup (aCons (eC (.str "key")) (aCons (eVar 10) aNil)) W S3 = .ok (pD "key" (keyP y)) S3 := by
      rw [eTup_ap, cons_at (v := .str "key") rfl (cons_at (var_at w10) nil_at), Rs.bind_ok, if_pos (by rw [sizeLine_val]; simp)]
      rfl
    refine set_at (frz_at ?_) (by rw [wl]; decide)
    rw [nLst_ap, cons_at t1 (cons_at t2 nil_at), Rs.bind_ok, if_pos (by rw [sizeLine_val]; simp)]
  have hv : Vok (W.set 11 (.val (.lst [pD "output" (wi x 0 ((n : Int) - 1)), pD "key" (keyP y)]))) n I R x y (wi x 0 ((n : Int) - 1)) (keyP y) := by
    rw [← hW]
    exact ⟨by simp [hV.len], slot_old (by decide) (slot_old (by decide) (slot_old (by decide) (slot_old (by decide) (slot_old (by decide) hV.v1)))), slot_old (by decide) (slot_old (by decide) (slot_old (by decide) (slot_old (by decide) (slot_old (by decide) hV.v3)))), slot_old (by decide) (slot_old (by decide) (slot_old (by decide) (slot_old (by decide) (slot_old (by decide) hV.v4)))), slot_old (by decide) (slot_old (by decide) (slot_old (by decide) (slot_old (by decide) (slot_old (by decide) hV.v5)))), by simp [List.getElem?_set, hV.len], by simp [List.getElem?_set, hV.len], by simp [List.getElem?_set, hV.len], by simp [List.getElem?_set, hV.len], by simp [List.getElem?_set, hV.len]⟩
  generalize W.set 11 (.val (.lst [pD "output" (wi x 0 ((n : Int) - 1)), pD "key" (keyP y)])) = U at s3 hv
  have fst1 : ∀ S, eCall m__law_first (aCons (eSlice (lE (eVar 11)) oNone (oSome (eC (.int 1)))) (aNil)) U S = .ok (.str (if wi x 0 ((n : Int) - 1) then "let" else "output")) S := fun S => by
    refine call_at (xs := [.lst [pD "output" (wi x 0 ((n : Int) - 1))]]) (cons_at ?_ nil_at) (first1 _ _ S)
    simp [hv.v11, cutD, cutAt]
  have fst2 : ∀ S, eCall m__law_first (aCons (eVar 11) (aNil)) U S = .ok (.str (if wi x 0 ((n : Int) - 1) then (if keyP y then "let" else "key") else "output")) S := fun S => call_at (cons_at (var_at hv.v11) nil_at) (first2 _ _ _ _ S)
  have hh3 := g3.1
  obtain ⟨S4, e4, g4⟩ := due_w hh3 q3 ox3.1 (deexc_val hv.v4) (deexc_val hv.v6)
  have q4 := q3.gr h.t0 g4
  have x4 := g4.fi hh3 ox3.1
  have y4 := g4.fi hh3 oy.1
  obtain ⟨S5, e5, g5⟩ := held_w g4.1 q4 x4 (deexc_val hv.v4) (deexc_val hv.v6)
  have q5 := q4.gr h.t0 g5
  have x5 := g5.fi g4.1 x4
  have y5 := g5.fi g4.1 y4
  obtain ⟨S6, e6, g6⟩ := ahead_w g5.1 q5 x5 y5 (deexc_val hv.v4) (deexc_val hv.v6) (deexc_val hv.v8)
  have q6 := q5.gr h.t0 g6
  have x6 := g6.fi g5.1 x5
  have y6 := g6.fi g5.1 y5
  obtain ⟨V7, S7, T7, e7, v7, n7, k7⟩ := stageA g6.1 h.t0 q6 (by omega) x6 y6 hv (sSeq (drawS stB) stC)
  obtain ⟨c, S8, e8, d8, c1, c2⟩ := drawn (many := 3) n7.hand (by omega) (by omega)
  have n8 := n7.gr (Gr.dr d8)
  have x8 := (Gr.dr d8).fi n7.hand (k7.fi x6)
  have tst : tOfB (eCmp cmpEq (eCall m__law_draw (aCons (eVar 1) (aCons (eC (.int 3)) (aNil)))) (eC (.int 0))) V7 S7 = .ok (decide (c = 0)) S8 := by
    rw [tOfB_ap, eCmp_ap, call_at (cons_at (var_at v7.v1) (cons_at (e := eC (.int 3)) rfl nil_at)) e8]
    simp
  obtain ⟨V9, S9, e9, v9, n9⟩ : ∃ V9 S9, drawS stB V7 S7 = .next V9 S9 ∧ Vok V9 n I R x y (wi x 0 ((n : Int) - 1)) (keyP y) ∧ En S9 T7 I R n (b + 2) := by
    by_cases hc : c = 0
    · obtain ⟨L8, ls8, rows8, q8⟩ := n8.one
      obtain ⟨V9, S9, e9, v9, n9, _⟩ := stageB n8.hand n8.t0 q8 x8 v7
      exact ⟨V9, S9, (if_t (S' := S8) (by rw [tst, decide_eq_true hc])).trans e9, v9, n9⟩
    · exact ⟨V7, S8, (if_f (b := sNext) (S' := S8) (by rw [tst, decide_eq_false hc])).trans (by rfl), v7, n8.more⟩
  obtain ⟨L9, ls9, rows9, q9⟩ := n9.one
  refine ⟨V9, S9, T7, ?_, ⟨v9.len, v9.v1, v9.v3, v9.v4, v9.v5⟩, n9⟩
  have so : ∀ a : Bool, PyData.strOk (if a then Str.ofString "let" else Str.ofString "output") = true := fun a => by cases a <;> decide +kernel
  have so2 : ∀ a k : Bool, PyData.strOk (if a then (if k then Str.ofString "let" else Str.ofString "key") else Str.ofString "output") = true := fun a k => by cases a <;> cases k <;> decide +kernel
  rw [turn_eq, seq_next s1, seq_next s2, seq_next s3, seq_next (word_step (so _) e4 (fst1 _)), seq_next (word_step (so _) e5 (fst1 _)), seq_next (word_step (so2 _ _) e6 (fst2 _)), e7, seq_next e9]
  exact stageC q9 hn v9
end
end L06

end
section
set_option Elab.async false
set_option linter.all false
set_option maxRecDepth 100000
set_option maxHeartbeats 4000000
namespace L06
open PySem Dn Pg
theorem init_exc {S : Store} {I : Nat} {x : D} (hx : FI S x) (hw : wi x 1 12 = false) : m_Ideal_init [.ref I, x] S = .exc "NoLines" [] S := by
  have e := check_lines_fi hx
  rw [hw] at e
  have s : sDrop (eCall m_check_lines (aCons (eVar 1) aNil)) [.val (.ref I), .val x, .un] S = .exc "NoLines" [] [.val (.ref I), .val x, .un] S := by simp [e]
  rw [m_Ideal_init, fnD_fin, b_Ideal_init]
  show (sSeq _ _ [.val (.ref I), .val x, .un] S).fin = _
  rw [sSeq_ap, s]
  rfl
theorem make_w {S : Store} {x : D} {V : Rho} (hh : HandOk S 0) (hx : FI S x) (v2 : V[2]? = some (.val x)) :
    ∃ S', eHo (hoD 4 b__law_word) (eMake "Ideal" m_Ideal_init (aCons (eVar 2) (aNil))) V S = .ok (.str (if wi x 1 12 then "let" else "lines")) S' ∧ Gr S S' := by
  have v2' := deexc_val v2
  have lh := hand_lt hh
  cases hw : wi x 1 12 with
  | false =>
    have g := Gr.app hh [.ins "Ideal" []]
    have e := init_exc (I := S.length) (g.fi hh hx) hw
    have act : (fun S' => eMake "Ideal" m_Ideal_init (aCons (eVar 2) (aNil)) (deexc V) S') S = .exc "NoLines" [] (S ++ [.ins "Ideal" []]) := by
      show eMake "Ideal" m_Ideal_init (aCons (eVar 2) (aNil)) (deexc V) S = _
      rw [eMake_ap, cons_at (var_at v2') nil_at, Rs.bind_ok, e]
      rfl
    obtain ⟨o, ho⟩ := word_NoLines act
    exact ⟨_, ho, g.trans (Gr.app g.1 _)⟩
  | true =>
    obtain ⟨i, rfl, h1, h2⟩ := wi_t hw
    obtain ⟨n, rfl⟩ : ∃ n : Nat, i = n := ⟨i.toNat, by omega⟩
    have i1 := init_ok (S := S ++ [.ins "Ideal" []]) (I := S.length) (n := n) (by simp) (by omega) (by omega)
    have act : (fun S' => eMake "Ideal" m_Ideal_init (aCons (eVar 2) (aNil)) (deexc V) S') S = _ := make_at (c := "Ideal") (m := m_Ideal_init) (cons_at (var_at v2') nil_at) i1
    refine ⟨_, word_let act, ?_⟩
    have old : ∀ a, a < S.length → ((S ++ [SO.ins "Ideal" []] ++ List.replicate n (SO.lst []) ++ [SO.lst ((List.range n).map fun i => D.ref ((S ++ [SO.ins "Ideal" []]).length + i))]).set S.length (ideal ((S ++ [SO.ins "Ideal" []]).length + n)))[a]? = S[a]? := fun a ha => by
      rw [set_get_ne _ (by omega), List.append_assoc, List.append_assoc, List.getElem?_append_left ha]
    exact ⟨hand_congr hh (old 0 lh), by simp, fun a _ ha => old a ha⟩
theorem law_pure (ns : List Int) (h63 : ns.length ≤ 63) : ∃ S, m_law [.lst (ns.map D.int)] [] = .ok (.bl true) S := by
  generalize hD : D.lst (ns.map D.int) = dd
  obtain ⟨S1, e1, h1, len1⟩ := hand0 ns
  rw [hD] at e1
  obtain ⟨od, S1', e1', g1, o1⟩ := odd_ok h1 (other := .non) (ov_dt rfl rfl)
  obtain ⟨u, m, S2, e2, d2, hm⟩ := any_lst (xs := [.int 0, .int 1, .int 12, .int 13, .int 5, od]) g1.1 (by simp) (by simp)
  have om : FI S2 m := by
    have := List.mem_of_getElem? hm
    simp only [List.mem_cons, List.not_mem_nil, or_false] at this
    rcases this with rfl | rfl | rfl | rfl | rfl | rfl
    · exact .dt rfl
    · exact .dt rfl
    · exact .dt rfl
    · exact .dt rfl
    · exact .dt rfl
    · exact (Gr.dr d2).fi g1.1 o1.1
  have c0 : ∀ (i : Int) (r : Rho) (S : Store), eC (.int i) r S = .ok (.int i) S := fun _ _ _ => rfl
  let r0 : Rho := Sl.val dd :: List.replicate 17 Sl.un
  have s1 : sSet 1 (eCall m__law_hand (aCons (eVar 0) (aNil))) r0 [] = .next (r0.set 1 (.val (.ref 0))) S1 := set_at (call_at (cons_at (var_at (d := dd) rfl) nil_at) e1) (by simp [r0])
  have s2 : sSet 2 (eCall m__law_any (aCons (eVar 1) (aCons (eFrz (nLst (aCons (eC (.int 0)) (aCons (eC (.int 1)) (aCons (eC (.int 12)) (aCons (eC (.int 13)) (aCons (eC (.int 5)) (aCons (eCall m__law_odd (aCons (eVar 1) (aCons (eC .non) (aNil)))) (aNil))))))))) (aNil)))) (r0.set 1 (.val (.ref 0))) S1 = .next ((r0.set 1 (.val (.ref 0))).set 2 (.val m)) S2 := by
    have eo : eCall m__law_odd (aCons (eVar 1) (aCons (eC .non) (aNil))) (r0.set 1 (.val (.ref 0))) S1 = .ok od S1' := call_at (cons_at (var_at rfl) (cons_at (v := .non) rfl nil_at)) e1'
    refine set_at (call_at (cons_at (var_at (d := .ref 0) rfl) (cons_at (frz_at (xs := [.int 0, .int 1, .int 12, .int 13, .int 5, od]) ?_) nil_at)) e2) (by simp [r0])
    rw [nLst_ap, cons_at (c0 _ _ _) (cons_at (c0 _ _ _) (cons_at (c0 _ _ _) (cons_at (c0 _ _ _) (cons_at (c0 _ _ _) (cons_at eo nil_at))))), Rs.bind_ok, if_pos (by rw [sizeLine_val]; simp)]
  obtain ⟨S3, e3, g3⟩ := make_w (V := (r0.set 1 (.val (.ref 0))).set 2 (.val m)) d2.1 om rfl
  have om3 := g3.fi d2.1 om
  have f3 := law_int_fi om3 1 12
  have s3 : sIf (tOfB (eCmp cmpNe (eHo (hoD 4 b__law_word) (eMake "Ideal" m_Ideal_init (aCons (eVar 2) (aNil)))) (eIf (tOfB (eCall m__law_is_int (aCons (eVar 2) (aCons (eC (.int 1)) (aCons (eC (.int 12)) (aNil)))))) (eC (.str "let")) (eC (.str "lines"))))) (sRet (eC (.bl false))) (sNext) ((r0.set 1 (.val (.ref 0))).set 2 (.val m)) S2 = .next ((r0.set 1 (.val (.ref 0))).set 2 (.val m)) S3 := by
    refine word_step (by cases wi m 1 12 <;> decide +kernel) e3 ?_
    rw [eIf_ap, tOfB_ap, call_at (cons_at (var_at rfl) (cons_at (c0 _ _ _) (cons_at (c0 _ _ _) nil_at))) f3]
    cases wi m 1 12 <;> rfl
  obtain ⟨nn, S4, e4, d4, hn⟩ := any_ints (xs := [1, 3, 12]) g3.1 (by simp) (by simp)
  obtain ⟨n, rfl, hn1, hn2⟩ : ∃ n : Nat, nn = n ∧ 1 ≤ n ∧ n ≤ 12 := by
    simp only [List.mem_cons, List.not_mem_nil, or_false] at hn
    exact ⟨nn.toNat, by omega, by omega, by omega⟩
  have s4 : sSet 3 (eCall m__law_any (aCons (eVar 1) (aCons (eFrz (nLst (aCons (eC (.int 1)) (aCons (eC (.int 3)) (aCons (eC (.int 12)) (aNil)))))) (aNil)))) ((r0.set 1 (.val (.ref 0))).set 2 (.val m)) S3 = .next (((r0.set 1 (.val (.ref 0))).set 2 (.val m)).set 3 (.val (.int n))) S4 := by
    refine set_at (call_at (cons_at (var_at (d := .ref 0) rfl) (cons_at (frz_at (xs := ([1, 3, 12] : List Int).map D.int) ?_) nil_at)) e4) (by simp [r0])
    rw [nLst_ap, cons_at (c0 _ _ _) (cons_at (c0 _ _ _) (cons_at (c0 _ _ _) nil_at)), Rs.bind_ok, if_pos (by rw [sizeLine_val]; simp)]
    rfl
  -- the pair
  have h4 := d4.1
  have l0 := hand_lt h4
  obtain ⟨s, hs⟩ : ∃ s, S4.length = s := ⟨_, rfl⟩
  have i1 := init_ok (S := S4 ++ [.ins "Ideal" []]) (I := S4.length) (n := n) (by simp) hn1 hn2
  generalize hS5 : ((S4 ++ [SO.ins "Ideal" []] ++ List.replicate n (SO.lst []) ++ [SO.lst ((List.range n).map fun i => D.ref ((S4 ++ [SO.ins "Ideal" []]).length + i))]).set S4.length (ideal ((S4 ++ [SO.ins "Ideal" []]).length + n))) = S5 at i1
  have l5 : S5.length = s + n + 2 := by rw [← hS5]; simp [hs]; omega
  have g0 : S5[0]? = S4[0]? := by
    rw [← hS5, set_get_ne _ (by omega), List.append_assoc, List.append_assoc, List.getElem?_append_left (by omega)]
  have g1' : S5[s]? = some (ideal (s + 1 + n)) := by
    rw [← hS5, hs, set_get _ (by simp [hs])]
    have : (S4 ++ [SO.ins "Ideal" []]).length + n = s + 1 + n := by simp [hs]
    rw [this]
  have g2 : ∀ j, j < n → S5[s + 1 + j]? = some (.lst []) := fun j hj => by
    rw [← hS5, set_get_ne _ (by omega), List.getElem?_append_left (by simp [hs]; omega), List.getElem?_append_right (by simp [hs])]
    have : s + 1 + j - (S4 ++ [SO.ins "Ideal" []]).length = j := by simp [hs]
    rw [this, List.getElem?_replicate, if_pos hj]
  have g3' : S5[s + 1 + n]? = some (.lst (((List.range n).map fun i => s + 1 + i).map D.ref)) := by
    rw [← hS5, set_get_ne _ (by omega), List.getElem?_append_right (by simp [hs]; omega)]
    have : s + 1 + n - (S4 ++ [SO.ins "Ideal" []] ++ List.replicate n (SO.lst [])).length = 0 := by simp [hs]; omega
    rw [this]
    simp [hs]
  generalize hP : ((r0.set 1 (.val (.ref 0))).set 2 (.val m)).set 3 (.val (.int n)) = P at s4
  have w3 : P[3]? = some (.val (.int n)) := by rw [← hP]; rfl
  have w1 : P[1]? = some (.val (.ref 0)) := by rw [← hP]; rfl
  have wl : P.length = 18 := by rw [← hP]; simp [r0]
  have mk : eMake "Ideal" m_Ideal_init (aCons (eVar 3) (aNil)) P S4 = .ok (.ref s) S5 := by
    have := make_at (c := "Ideal") (m := m_Ideal_init) (cons_at (var_at w3) nil_at) i1
    rw [hs] at this
    exact this
  have rw1 : eNew (nLc (iRange1 (eVar 3)) (gNameD 6) (tYesD) (eFrz (nLst (aNil))) [6]) P S5 = .ok (.ref (s + n + 2)) (S5 ++ [.lst ((List.replicate n ([] : List Key)).map rowD)]) := by
    have lc : nLc (iRange1 (eVar 3)) (gNameD 6) (tYesD) (eFrz (nLst (aNil))) [6] P S5 = .ok ((List.replicate n ([] : List Key)).map rowD) S5 := by
      refine lc_at (iRange1_nat (n := n) (by omega) (var_at w3)) ?_
      refine lcGo_pure trivial (by simp [rangeD]) fun i x y hx hy => ?_
      obtain ⟨r, hr, rfl⟩ := get_map hy
      have : r = [] := List.eq_of_mem_replicate (List.mem_of_getElem? hr)
      subst this
      exact ⟨(wipeD P [6]).set 6 (.val x), by simp [gNameD, wipeD, wl], rfl, rfl⟩
    rw [Dn.new_at lc, l5]
  generalize hS6 : S5 ++ [SO.lst ((List.replicate n ([] : List Key)).map rowD)] = S6 at rw1
  have s5 : sAsg (eTup (aCons (eMake "Ideal" m_Ideal_init (aCons (eVar 3) (aNil))) (aCons (eNew (nLc (iRange1 (eVar 3)) (gNameD 6) (tYesD) (eFrz (nLst (aNil))) [6])) (aNil)))) (gTupD 2 (gsCons (gNameD 4) (gsCons (gNameD 5) (gsNil)))) P S4 = .next ((P.set 4 (.val (.ref s))).set 5 (.val (.ref (s + n + 2)))) S6 := by
    rw [sAsg_ap, eTup_ap, cons_at mk (cons_at rw1 nil_at), Rs.bind_ok, if_pos (by rw [sizeLine_val]; simp)]
    simp [gTupD, gsCons, gsNil, gNameD, wl]
  have old6 : ∀ x, x < s + n + 2 → S6[x]? = S5[x]? := fun x hx => by rw [← hS6, List.getElem?_append_left (by omega)]
  let T : Nat → Nat × Nat := fun x => if x = 0 then (0, 9) else if x = s then (s, 0) else if x = s + 1 + n then (s, 1) else if x = s + n + 2 then (s, 2) else (s, 3 + (x - (s + 1)))
  have en : En S6 T s (s + n + 2) n 0 := by
    refine ⟨hand_congr h4 ((old6 0 (by omega)).trans g0), rfl, s + 1 + n, (List.range n).map fun i => s + 1 + i, List.replicate n [], ⟨(old6 s (by omega)).trans g1', ?_, (old6 _ (by omega)).trans g3', ?_, ?_, ?_, by simp, by simp, fun j l r hl hr => ?_, fun r hr => ?_⟩⟩
    · show (if s = 0 then _ else _) = _
      rw [if_neg (by omega), if_pos rfl]
    · show (if s + 1 + n = 0 then _ else _) = _
      rw [if_neg (by omega), if_neg (by omega), if_pos rfl]
    · rw [← hS6, List.getElem?_append_right (by omega)]
      simp [l5]
    · show (if s + n + 2 = 0 then _ else _) = _
      rw [if_neg (by omega), if_neg (by omega), if_neg (by omega), if_pos rfl]
    · obtain ⟨i, hi, rfl⟩ := get_map hl
      have hjn : j < n := by
        have := (List.getElem?_eq_some_iff.mp hr).1
        simpa using this
      have hij : i = j := by
        rw [List.getElem?_range hjn] at hi
        exact (Option.some.inj hi).symm
      subst hij
      have : r = [] := List.eq_of_mem_replicate (List.mem_of_getElem? hr)
      subst this
      refine ⟨(old6 _ (by omega)).trans (g2 i hjn), ?_⟩
      show (if s + 1 + i = 0 then _ else _) = _
      rw [if_neg (by omega), if_neg (by omega), if_neg (by omega), if_neg (by omega)]
      have a6 : s + 1 + i - (s + 1) = i := by omega
      rw [a6]
    · have := List.eq_of_mem_replicate hr
      subst this
      exact ⟨List.Pairwise.nil, Nat.le_refl _, fun _ h => by cases h⟩
  have vk : Vk ((P.set 4 (.val (.ref s))).set 5 (.val (.ref (s + n + 2)))) n s (s + n + 2) :=
    ⟨by simp [wl], slot_old (by decide) (slot_old (by decide) w1), slot_old (by decide) (slot_old (by decide) w3), slot_old (by decide) (slot_new (by rw [wl]; decide)), slot_new (by rw [List.length_set, wl]; decide)⟩
  have hw : iRange1 (eC (.int 10)) ((P.set 4 (.val (.ref s))).set 5 (.val (.ref (s + n + 2)))) S6 = .ok (wkS (rangeD 0 (10 : Nat))) S6 := iRange1_nat (n := 10) (by omega) rfl
  obtain ⟨r7, S7, e7, T7, en7, vk7⟩ := forGo_inv (ok := fun _ => True) (g := gNameD 7) (b := turnB) (fun i r S => ∃ T, En S T s (s + n + 2) n (2 * i) ∧ Vk r n s (s + n + 2)) (rangeD 0 (10 : Nat)) 0 ((P.set 4 (.val (.ref s))).set 5 (.val (.ref (s + n + 2)))) S6 ⟨T, en, vk⟩ (fun _ _ _ _ => trivial) fun i x r S hx hp => by
    obtain ⟨T, hs, hv⟩ := hp
    have hi : i < (rangeD 0 (10 : Nat)).length := (List.getElem?_eq_some_iff.mp hx).1
    have hi2 : i < 10 := by
      simp [rangeD] at hi
      omega
    have hv7 : Vk (r.set 7 (.val x)) n s (s + n + 2) := ⟨by simp [hv.len], slot_old (by decide) hv.v1, slot_old (by decide) hv.v3, slot_old (by decide) hv.v4, slot_old (by decide) hv.v5⟩
    obtain ⟨V', S', T', e, hv', hs'⟩ := turn_at hs (by omega) hn1 hn2 hv7
    refine ⟨r.set 7 (.val x), by simp [gNameD, hv.len], V', S', .inl e, T', ?_, hv'⟩
    have : 2 * (0 + i) + 2 = 2 * (0 + i + 1) := by omega
    rw [← this]
    exact hs'
  have s6 : sFor (iRange1 (eC (.int 10))) (gNameD 7) turnB ((P.set 4 (.val (.ref s))).set 5 (.val (.ref (s + n + 2)))) S6 = .next r7 S7 := by
    rw [sFor_ap, hw, Rs.toS_ok]
    exact e7
  refine ⟨S7, ?_⟩
  rw [m_law, fnD_fin, law_eq]
  show (sSeq _ _ r0 []).fin = _
  rw [seq_next s1, seq_next s2, seq_next s3, seq_next s4, seq_next s5, seq_next s6]
  rfl
end L06

end
section
set_option Elab.async false
set_option linter.all false
set_option maxRecDepth 100000
set_option maxHeartbeats 0
namespace L06
open PySem PySem.Spec PyProof.Rows L2 Dn
abbrev R : PySem.W.OpenRow := PySem.W.OpenLaw.row PySem.Challenge.rw_exactbeats_k06_ideal_outputs_refused
abbrev hk : PySem.W.Hook := hookT 4 fx fa fn (tl.map (·.1))
def ob (s : PySem.W.SharedT) : He.AlX := obsTT 4 fx fa fn (tl.map (·.1)) (HandSHeadRun.getT s)
theorem ob_eq (s : PySem.W.SharedT) : ob s = hk.obs s.abs := obsTT_eq (HandSHeadRun.getT_eq s)
def loose : List PySem.Str := (["_wall", "is_integer", "is_within", "is_pair", "FabricError", "NoLines", "NoOutput", "NoKey", "KeyThere", "NothingThere", "MOST_LINES", "check_lines", "MOST_RANK", "is_key", "check_key", "Ideal", "_law_hand", "_law_draw", "_law_any", "_law_is_int", "_law_deep", "_law_odd", "_law_first", "_law_key", "_law_inserted", "_law_word", "_law_is_key", "_law_some_key"] : List PySem.Str)
theorem run (w : World) : HandSHeadRun.RunEq R (PySem.W.view R.prog [33]) hk ob 3000 loose w := by
  intro os
  kernel_rfl
end L06
open PySem PySem.W PySem.Calls PyProof.Rows
theorem PySem.Challenge.cw_exactbeats_k06_ideal_outputs_refused_holds : PySem.Challenge.rw_exactbeats_k06_ideal_outputs_refused.Holds := by
  w_on; o_law
  refine HandSHeadRun.head_any (r := OpenLaw.row PySem.Challenge.rw_exactbeats_k06_ideal_outputs_refused) (q := view (OpenLaw.row PySem.Challenge.rw_exactbeats_k06_ideal_outputs_refused).prog [33]) (H := L06.hk) (ob := L06.ob) (M := 3000) (loose := L06.loose) (d := HandSHeadRun.topDef (OpenLaw.row PySem.Challenge.rw_exactbeats_k06_ideal_outputs_refused).prog 33) (kwd := []) L06.ob_eq
    (by kernel_rfl) (fun s => by kernel_rfl) L06.run (by kernel_rfl) (by kernel_rfl) (by kernel_rfl) (by rfl) (by first | assumption | decide +kernel) (by decide +kernel) ⟨rfl, rfl, rfl, rfl, rfl, by decide +kernel⟩ ?hw ?hc
  case hw => w_witness2
  case hc =>
    refine Dn.walk_ofG (l := PySem.Challenge.rw_exactbeats_k06_ideal_outputs_refused) (k := 8) (x := "_law_script") (tl := L06.tl) rfl (by kernel_rfl) ⟨rfl, by decide, by decide⟩ fun w mg f h K KX c G hmg0 => ?_
    have hmg : mg ("law" : PySem.Str) = some (.ref f) := by
      have e : (HandSHeadRun.topDef (OpenLaw.row PySem.Challenge.rw_exactbeats_k06_ideal_outputs_refused).prog 33).name = ("law" : PySem.Str) := by kernel_rfl
      rw [← e]
      exact hmg0
    have fc := L06.fc_of KX G c
    have e := hmg.symm.trans (He.glo_ok KX G (c.fact 55 (f := .glo "law") rfl))
    cases e
    obtain ⟨fd, F⟩ := fc.f_law
    have b := L2.FunD.bindsA (ps := ["_law_script"]) F fun _ _ _ _ _ _ us hl => match us, hl with | [_], _ => rfl
    refine ⟨fd, L06.m_law, fun s v => b s [v] rfl, L06.law_pure, fun base _ _ _ tx => ?_⟩
    obtain ⟨fd2, F2, O2, _⟩ := L06.ok_law (P := (PySem.Challenge.rw_exactbeats_k06_ideal_outputs_refused).prog) (w := w) (base := base) fc tx
    cases Dn.fd_one F F2
    exact O2

end
