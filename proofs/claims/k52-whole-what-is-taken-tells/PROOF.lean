import PyProof.Rows.All
import Wide.All
import OpenK.AllK
import Wide.FinOn
import HandS.ForMost
import KE.SortData
import KE.DataCmp
import HandS.IsInst
import HandS.TupAny
import HandS.TupMul
import HandS.Lambda
import HandS.EndTab
import HandS.Zip
import HandS.Walk
import KE.GoesEnum
import KE.KDictPairs
import KE.SortKeyHeap
import PyProof.MaxThree
import HandS.Style
import HandS.SortKw
import HandS.Defaults
import HandS.Exc
import PySem.Challenge.RW_boxlayers_k52_whole_what_is_taken_tells
import KE.KStateDown
import HandS.Head0
import HandS.Head1
import HandS.Head2
import HandS.HeadEnd
import HandS.HeadHook1
import HandS.HeadHook2
import HandS.HeadHook3
import HandS.HeadHook4
import HandS.HeadWalk
set_option Elab.async false
set_option linter.all false
set_option maxRecDepth 100000
set_option maxHeartbeats 0
/-! Bx1: what the defs do, over data alone (no heap): predicate transformers -/
namespace Bx
open PySem

/-- what a name may hold: data (no lists inside), a list that others hold too (l), a list of one's own (o), the picks' state, a dict that others hold (dk), one's own (dn), the script (s), a built-in class (ty) -/
inductive Val where
  | d (x : PyData) | l (xs : List PyData) | o (xs : List PyData) | rng | dk (f : Int → Option PyData) | dn (n : Nat) (f : Int → Option PyData) | s (ns : List Int) | ty (n : String)

abbrev Sl := List (Option Val)
def Val.rd : Val → Val
  | .o xs => .l xs
  | .dn _ f => .dk f
  | v => v
/-- may be stored in a name -/
def Val.own : Val → Prop
  | .d _ => True
  | .o _ => True
  | .dn _ _ => True
  | _ => False
def Val.lst : Val → Option (List PyData)
  | .l xs => some xs
  | .o xs => some xs
  | _ => none
def Val.seq : Val → Option (List PyData)
  | .d (.tuple xs) => some xs
  | .l xs => some xs
  | .o xs => some xs
  | .s ns => some (ns.map .int)
  | _ => none
def Val.dic : Val → Option (Int → Option PyData)
  | .dk f => some f
  | .dn _ f => some f
  | _ => none
def Val.py : Val → Option PyData
  | .d x => some x
  | .l xs => some (.list xs)
  | .o xs => some (.list xs)
  | _ => none
def isNoneD : PyData → Bool
  | .none => true
  | _ => false
def Val.isN : Val → Bool
  | .d x => isNoneD x
  | _ => false
def flatD : PyData → Bool
  | .none => true
  | .bool _ => true
  | .int _ => true
  | .str _ => true
  | _ => false

abbrev DE := Sl → (Val → Prop) → Prop
abbrev DT := Sl → (Bool → Prop) → Prop
abbrev DA := Sl → (List Val → Prop) → Prop
abbrev DO := Sl → (Option Int → Prop) → Prop
abbrev DF := List Val → (Val → Prop) → Prop

/-- the empty dict -/
def dNewD : Sl → (Val → Prop) → Prop := fun _ P => P (.dn 0 fun _ => none)
/-! ### expressions -/
def dVar (i : Nat) : DE := fun e P => ∃ x, e[i]? = some (some x) ∧ P x.rd
def dC (x : PyData) : DE := fun _ P => P (.d x)
def dTy (n : String) : DE := fun _ P => P (.ty n)
def dNil : DA := fun _ P => P []
def dCons (a : DE) (r : DA) : DA := fun e P => a e fun x => r e fun xs => P (x :: xs)
def dTup (a : DA) : DE := fun e P => a e fun xs => ∃ ds, xs = ds.map Val.d ∧ P (.d (.tuple ds))
def dLst (a : DA) : DE := fun e P => a e fun xs => ∃ ds, xs = ds.map Val.d ∧ P (.o ds)
/-- a binary operation by values -/
abbrev DR := Val → Val → (Val → Prop) → Prop
def dOp (r : DR) (a b : DE) : DE := fun e P => a e fun x => b e fun y => r x y P
def rI2 (C : Int → Int → Prop) (g : Int → Int → PyData) : DR := fun x y P => ∃ i j, x = .d (.int i) ∧ y = .d (.int j) ∧ C i j ∧ P (.d (g i j))
def rIx : DR := fun x y P => ∃ xs i v, x.seq = some xs ∧ y = .d (.int i) ∧ L2.atI xs i = some v ∧ P (.d v)
def rIxD : DR := fun x y P => ∃ f n v, x.dic = some f ∧ y = .d (.int n) ∧ f n = some v ∧ P (.d v)
def rCat : DR := fun x y P => ∃ xs ys, x.lst = some xs ∧ y.lst = some ys ∧ xs.length + ys.length ≤ 100000 ∧ P (.o (xs ++ ys))
def rCatT : DR := fun x y P => ∃ xs ys, x = .d (.tuple xs) ∧ y = .d (.tuple ys) ∧ xs.length + ys.length ≤ 100000 ∧ P (.d (.tuple (xs ++ ys)))
def rRepT : DR := fun x y P => ∃ xs k, x = .d (.tuple xs) ∧ y = .d (.int k) ∧ xs ≠ [] ∧ 1 ≤ k ∧ k ≤ 1000 ∧ xs.length ≤ 1000 ∧ P (.d (.tuple (List.replicate k.toNat xs).flatten))
def rEq (neg : Bool) : DR := fun x y P => ∃ a b, x.py = some a ∧ y.py = some b ∧ (a.depth ≤ 60 ∨ b.depth ≤ 60) ∧ P (.d (.bool (if neg then !PyData.eqv a b else PyData.eqv a b)))
def rInS (neg : Bool) : DR := fun x y P => ∃ a ys, x = .d a ∧ y.seq = some ys ∧ flatD a = true ∧ ys.all flatD = true ∧ P (.d (.bool (if neg then !(ys.any fun z => PyData.eqv z a) else ys.any fun z => PyData.eqv z a)))
def rInN : DR := fun x y P => ∃ ys, x = .d .none ∧ y.lst = some ys ∧ P (.d (.bool (ys.any isNoneD)))
def rInD : DR := fun x y P => ∃ n f, x = .d (.int n) ∧ y.dic = some f ∧ P (.d (.bool (f n).isSome))
/-- the order of data: less, greater, at most -/
def rLtD : DR := fun x y P => ∃ a b, x = .d a ∧ y = .d b ∧ PySem.W.alike a b = true ∧ a ≠ .none ∧ a.depth ≤ 60 ∧ P (.d (.bool (PySem.W.dataLt a b)))
def rGtD : DR := fun x y P => ∃ a b, x = .d a ∧ y = .d b ∧ PySem.W.alike a b = true ∧ a ≠ .none ∧ a.depth ≤ 60 ∧ P (.d (.bool (PySem.W.dataLt b a)))
def rLeD : DR := fun x y P => ∃ a b, x = .d a ∧ y = .d b ∧ PySem.W.alike a b = true ∧ a ≠ .none ∧ a.depth ≤ 60 ∧ P (.d (.bool (!PySem.W.dataLt b a)))
def dIsN (neg : Bool) (a : DE) : DE := fun e P => a e fun x => P (.d (.bool (if neg then !x.isN else x.isN)))
def dNeg (a : DE) : DE := fun e P => a e fun x => ∃ i, x = .d (.int i) ∧ P (.d (.int (-i)))
/-- a <= b < c of ints -/
def dChain (a b c : DE) : DE := fun e P => a e fun x => b e fun y => ∃ i j, x = .d (.int i) ∧ y = .d (.int j) ∧ if i ≤ j then c e fun z => ∃ k, z = .d (.int k) ∧ P (.d (.bool (decide (j < k)))) else P (.d (.bool false))
def dAndV (a b : DE) : DE := fun e P => a e fun x => ∃ c, x = .d (.bool c) ∧ if c = true then b e P else P (.d (.bool false))
def dOrV (a b : DE) : DE := fun e P => a e fun x => ∃ c, x = .d (.bool c) ∧ if c = true then P (.d (.bool true)) else b e P
def dNotV (a : DE) : DE := fun e P => a e fun x => ∃ c, x = .d (.bool c) ∧ P (.d (.bool (!c)))
def dT (a : DE) : DT := fun e P => a e fun x => ∃ c, x = .d (.bool c) ∧ P c
def dAnd (t u : DT) : DT := fun e P => t e fun c => if c = true then u e P else P false
def dOr (t u : DT) : DT := fun e P => t e fun c => if c = true then P true else u e P
def dNot (t : DT) : DT := fun e P => t e fun c => P (!c)
def dYes : DT := fun _ P => P true
def dIfE (t : DT) (a b : DE) : DE := fun e P => t e fun c => if c = true then a e P else b e P
def dF (r : DF) (a : DA) : DE := fun e P => a e fun xs => r xs P
def dCall (S : DF) (a : DA) : DE := fun e P => a e fun xs => S (xs.map Val.rd) P
def doN : DO := fun _ P => P none
def doS (a : DE) : DO := fun e P => a e fun x => ∃ i, x = .d (.int i) ∧ P (some i)
def cut (xs : List PyData) (lo hi : Option Int) : List PyData := (xs.drop (HT.sIx xs.length 0 lo)).take (HT.sIx xs.length xs.length hi - HT.sIx xs.length 0 lo)
def dSlL (a : DE) (lo hi : DO) : DE := fun e P => a e fun x => lo e fun l => hi e fun h => ∃ xs, x.lst = some xs ∧ P (.o (cut xs l h))
def dSlT (a : DE) (lo hi : DO) : DE := fun e P => a e fun x => lo e fun l => hi e fun h => ∃ xs, x = .d (.tuple xs) ∧ P (.d (.tuple (cut xs l h)))
/-- every other one, from the first on, from the second on -/
def evens : List PyData → List PyData
  | [] => []
  | [x] => [x]
  | x :: _ :: r => x :: evens r
def odds : List PyData → List PyData
  | [] => []
  | _ :: r => evens r
def dSl2 (odd : Bool) (a : DE) : DE := fun e P => a e fun x => ∃ xs, x.lst = some xs ∧ xs.length ≤ 100000 ∧ P (.o (if odd then odds xs else evens xs))

/-! ### built-ins -/
def fLen : DF := fun vs P => ∃ (x : Val) (xs : List PyData), vs = [x] ∧ x.seq = some xs ∧ P (.d (.int xs.length))
def fAbs : DF := fun vs P => ∃ i, vs = [.d (.int i)] ∧ P (.d (.int (if i < 0 then -i else i)))
def fInt : DF := fun vs P => ∃ c, vs = [.d (.bool c)] ∧ P (.d (.int (if c then 1 else 0)))
def fMin2 : DF := fun vs P => ∃ i j, vs = [.d (.int i), .d (.int j)] ∧ P (.d (.int (if j < i then j else i)))
def fMax2 : DF := fun vs P => ∃ i j, vs = [.d (.int i), .d (.int j)] ∧ P (.d (.int (if j > i then j else i)))
def mx2 (i j : Int) : Int := if j > i then j else i
def fMax3 : DF := fun vs P => ∃ i j k, vs = [.d (.int i), .d (.int j), .d (.int k)] ∧ P (.d (.int (mx2 (mx2 i j) k)))
def fMinL : DF := fun vs P => ∃ (x : Val) (ns : List Int), vs = [x] ∧ x.lst = some (ns.map .int) ∧ 0 < ns.length ∧ ∀ m, m ∈ ns → (∀ y, y ∈ ns → m ≤ y) → P (.d (.int m))
def fMaxL : DF := fun vs P => ∃ (x : Val) (ns : List Int), vs = [x] ∧ x.lst = some (ns.map .int) ∧ 0 < ns.length ∧ ∀ m, m ∈ ns → (∀ y, y ∈ ns → y ≤ m) → P (.d (.int m))
def fSum : DF := fun vs P => ∃ (x : Val) (ns : List Int), vs = [x] ∧ x.lst = some (ns.map .int) ∧ P (.d (.int ns.sum))
def fAll : DF := fun vs P => ∃ (x : Val) (bs : List Bool), vs = [x] ∧ x.lst = some (bs.map .bool) ∧ P (.d (.bool (bs.all id)))
def fAny : DF := fun vs P => ∃ (x : Val) (bs : List Bool), vs = [x] ∧ x.lst = some (bs.map .bool) ∧ P (.d (.bool (bs.any id)))
def fTuple : DF := fun vs P => ∃ (x : Val) (xs : List PyData), vs = [x] ∧ x.lst = some xs ∧ P (.d (.tuple xs))
def fList : DF := fun vs P => ∃ (x : Val) (xs : List PyData), vs = [x] ∧ x.seq = some xs ∧ P (.o xs)
def fput (f : Int → Option PyData) (n : Int) (v : PyData) : Int → Option PyData := fun k => if k = n then some v else f k
def fmerge (f : Int → Option PyData) (ps : List (Int × PyData)) : Int → Option PyData := ps.foldl (fun g p => fput g p.1 p.2) f
def pairD (p : Int × PyData) : PyData := .tuple [.int p.1, p.2]
def fDict : DF := fun vs P => ∃ (x : Val) (ps : List (Int × PyData)), vs = [x] ∧ x.lst = some (ps.map pairD) ∧ P (.dn ps.length (fmerge (fun _ => none) ps))
def fSorted : DF := fun vs P => ∃ (x : Val) (xs : List PyData), vs = [x] ∧ x.lst = some xs ∧ PySem.W.AllAlike xs ∧ PySem.W.Sortable xs ∧ xs.length ≤ 100000 ∧ (∀ d ∈ xs, d.depth ≤ 50) ∧ P (.o (xs.mergeSort (PySem.W.dataLe false id)))
def tyD : PyData → String
  | .none => "NoneType"
  | .bool _ => "bool"
  | .int _ => "int"
  | .str _ => "str"
  | .tuple _ => "tuple"
  | .list _ => "list"
  | .dict _ => "dict"
/-- isinstance(x, T) of data -/
def isiS (t n : String) : Bool := t == n || (t == "bool" && n == "int")
def isiB (d : PyData) (n : String) : Bool := isiS (tyD d) n
def fIsi : DF := fun vs P => ∃ d n, vs = [.d d, .ty n] ∧ (n = "int" ∨ n = "bool" ∨ n = "tuple" ∨ n = "str") ∧ P (.d (.bool (isiB d n)))

/-! ### targets -/
mutual
inductive Tg where
  | n (i : Nat) | t (ts : Tgs)
inductive Tgs where
  | nil | cons (t : Tg) (ts : Tgs)
end
def Tgs.len : Tgs → Nat
  | .nil => 0
  | .cons _ ts => ts.len + 1
mutual
def Tg.ds : Tg → List Nat
  | .n i => [i]
  | .t ts => ts.ds
def Tgs.ds : Tgs → List Nat
  | .nil => []
  | .cons t ts => t.ds ++ ts.ds
end
mutual
def dG : Tg → PyData → Sl → (Sl → Prop) → Prop
  | .n i, x, e, P => P (e.set i (some (.d x)))
  | .t ts, x, e, P => ∃ xs, x = .tuple xs ∧ xs.length = ts.len ∧ dGs ts xs e P
def dGs : Tgs → List PyData → Sl → (Sl → Prop) → Prop
  | .nil, xs, e, P => xs = [] ∧ P e
  | .cons t ts, xs, e, P => ∃ x r, xs = x :: r ∧ dG t x e fun e' => dGs ts r e' P
end
def wipeE (e : Sl) : List Nat → Sl
  | [] => e
  | v :: vs => (wipeE e vs).set v none

/-! ### comprehensions -/
abbrev CI := Sl → (List PyData → Prop) → Prop
def ciL (a : DE) : CI := fun e P => a e fun x => ∃ xs, x.lst = some xs ∧ xs.length ≤ 100000 ∧ P xs
def ciT (a : DE) : CI := fun e P => a e fun x => ∃ xs, x = .d (.tuple xs) ∧ xs.length ≤ 100000 ∧ P xs
def Val.zq : Val → Option (List PyData)
  | .d (.tuple xs) => some xs
  | .l xs => some xs
  | .o xs => some xs
  | _ => none
def ciR (a : DE) : CI := fun e P => a e fun x => ∃ n, x = .d (.int n) ∧ 0 ≤ n ∧ n ≤ 100000 ∧ P ((List.range n.toNat).map fun i => PyData.int (i : Nat))
def zipD (xs ys : List PyData) : List PyData := List.zipWith (fun x y => PyData.tuple [x, y]) xs ys
def ciZ (a b : DE) : CI := fun e P => a e fun x => b e fun y => ∃ xs ys, x.zq = some xs ∧ y.zq = some ys ∧ xs.length ≤ 100000 ∧ P (zipD xs ys)
def lcLoop (g : Tg) (t : DT) (el : DE) (e0 : Sl) (P : Val → Prop) : List PyData → List PyData → Prop
  | [], acc => P (.o acc)
  | x :: xs, acc => dG g x e0 fun e2 => t e2 fun b => if b = true then el e2 fun y => ∃ d, y = .d d ∧ lcLoop g t el e0 P xs (acc ++ [d]) else lcLoop g t el e0 P xs acc
def dLc (it : CI) (g : Tg) (t : DT) (el : DE) (vs : List Nat) : DE := fun e P => it e fun xs => lcLoop g t el (wipeE e vs) P xs []

/-! ### statements -/
structure DK where
  nx : Sl → Prop
  rt : Val → Prop
  bk : Sl → Prop := fun _ => False
  ct : Sl → Prop := fun _ => False
abbrev DS := DK → Sl → Prop
def sNext : DS := fun D e => D.nx e
def sNever : DS := fun _ _ => False
def sSeq (t u : DS) : DS := fun D e => t { D with nx := u D } e
def sRet (a : DE) : DS := fun D e => a e D.rt
def sRetV (i : Nat) : DS := fun D e => ∃ x, e[i]? = some (some x) ∧ x.own ∧ D.rt x
def sIf (t : DT) (a b : DS) : DS := fun D e => t e fun c => if c = true then a D e else b D e
def sSet (a : DE) (i : Nat) : DS := fun D e => a e fun x => x.own ∧ D.nx (e.set i (some x))
/-- a new list (dict) that nobody changes any more -/
def Val.fz : Val → Val
  | .o xs => .l xs
  | .dn _ f => .dk f
  | v => v
def sSetF (a : DE) (i : Nat) : DS := fun D e => a e fun x => x.own ∧ D.nx (e.set i (some x.fz))
def sParF (i j : Nat) (a b : DE) : DS := fun D e => a e fun x => b e fun y => x.own ∧ y.own ∧ D.nx ((e.set i (some x.fz)).set j (some y.fz))
def sAsg (a : DE) (g : Tg) : DS := fun D e => a e fun x => ∃ d, x = .d d ∧ dG g d e D.nx
def sPar (i j : Nat) (a b : DE) : DS := fun D e => a e fun x => b e fun y => x.own ∧ y.own ∧ D.nx ((e.set i (some x)).set j (some y))
def sAug (i : Nat) (a : DE) : DS := fun D e => ∃ n, e[i]? = some (some (.d (.int n))) ∧ a e fun x => ∃ m, x = .d (.int m) ∧ D.nx (e.set i (some (.d (.int (n + m)))))
def sApp (i : Nat) (a : DE) : DS := fun D e => ∃ xs, e[i]? = some (some (.o xs)) ∧ xs.length < 100000 ∧ a e fun x => ∃ d, x = .d d ∧ D.nx (e.set i (some (.o (xs ++ [d]))))
def sExt (i : Nat) (a : DE) : DS := fun D e => ∃ xs, e[i]? = some (some (.o xs)) ∧ xs.length ≤ 100000 ∧ a e fun x => ∃ ys, x.lst = some ys ∧ ys.length ≤ 100000 ∧ D.nx (e.set i (some (.o (xs ++ ys))))
def sUpd (i : Nat) (a : DE) : DS := fun D e => ∃ n f, e[i]? = some (some (.dn n f)) ∧ a e fun x => ∃ ps : List (Int × PyData), x.lst = some (ps.map pairD) ∧ n + ps.length ≤ 100000 ∧ D.nx (e.set i (some (.dn (n + ps.length) (fmerge f ps))))
/-- what a for walks: a tuple; a name's list that the loop leaves; a range; the zip of two names -/
abbrev DI := Sl → (List PyData → Prop) → Prop
def Val.fix : Val → Option (List PyData)
  | .d (.tuple xs) => some xs
  | .l xs => some xs
  | _ => none
def diT (a : DE) : DI := fun e P => a e fun x => ∃ xs, x = .d (.tuple xs) ∧ P xs
def diV (i : Nat) : DI := fun e P => ∃ x xs, e[i]? = some (some x) ∧ x.fix = some xs ∧ P xs
def diR (a : DE) : DI := fun e P => a e fun x => ∃ n, x = .d (.int n) ∧ 0 ≤ n ∧ n ≤ 100000 ∧ P ((List.range n.toNat).map fun i => PyData.int (i : Nat))
def diZ (i j : Nat) : DI := fun e P => ∃ x y xs ys, e[i]? = some (some x) ∧ e[j]? = some (some y) ∧ x.fix = some xs ∧ y.fix = some ys ∧ P (zipD xs ys)
def forLoop (g : Tg) (b : DS) (D : DK) : List PyData → Sl → Prop
  | [], e => D.nx e
  | x :: xs, e => dG g x e fun e' => b { nx := forLoop g b D xs, rt := D.rt, bk := D.nx, ct := forLoop g b D xs } e'
def sFor (it : DI) (g : Tg) (b : DS) : DS := fun D e => it e fun xs => forLoop g b D xs e

def startD (n : Nat) (xs : List Val) : Sl := xs.map some ++ List.replicate (n - xs.length) none
/-- a def of so many names: what it does of its arguments -/
def defD (n : Nat) (b : DS) : DF := fun xs P => b { nx := fun _ => P (.d .none), rt := P } (startD n xs)
abbrev oAdd (a b : DE) : DE := dOp (rI2 (fun _ _ => True) fun i j => .int (i + j)) a b
abbrev oSub (a b : DE) : DE := dOp (rI2 (fun _ _ => True) fun i j => .int (i - j)) a b
abbrev oMul (a b : DE) : DE := dOp (rI2 L2.CMul fun i j => .int (i * j)) a b
abbrev oMod (a b : DE) : DE := dOp (rI2 (fun _ j => j ≠ 0) fun i j => .int (i.fmod j)) a b
abbrev oDiv (a b : DE) : DE := dOp (rI2 L2.CDivN fun i j => .int (i.fdiv j)) a b
abbrev oPow (a b : DE) : DE := dOp (rI2 L2.CPow fun i j => .int (i ^ j.toNat)) a b
abbrev oLt (a b : DE) : DE := dOp (rI2 (fun _ _ => True) fun i j => .bool (decide (i < j))) a b
abbrev oLe (a b : DE) : DE := dOp (rI2 (fun _ _ => True) fun i j => .bool (decide (i ≤ j))) a b
abbrev oGt (a b : DE) : DE := dOp (rI2 (fun _ _ => True) fun i j => .bool (decide (j < i))) a b
abbrev oGe (a b : DE) : DE := dOp (rI2 (fun _ _ => True) fun i j => .bool (decide (j ≤ i))) a b
/-- by place and name -/
def byP : PyData → PyData
  | .tuple [n, p, _] => .tuple [p, n]
  | _ => .none
def isThing (x : PyData) : Prop := ∃ n p w, x = .tuple [n, p, w]
def dSortP (a : DE) : DE := fun e P => a e fun x => ∃ xs, x.lst = some xs ∧ xs.length ≤ 100000 ∧ (∀ z ∈ xs, isThing z) ∧ PySem.W.AllAlike (xs.map byP) ∧ (∀ z ∈ xs, (byP z).depth ≤ 50) ∧ P (.o (xs.mergeSort (PySem.W.dataLe false byP)))
/-- by the coordinate at i and name -/
def byL (i : Int) : PyData → PyData
  | .tuple [n, .tuple ps, _] => match L2.atI ps i with
    | some c => .tuple [c, n]
    | none => .none
  | _ => .none
def isThingI (i : Int) (x : PyData) : Prop := ∃ n ps w c, x = .tuple [n, .tuple ps, w] ∧ L2.atI ps i = some c
def dSortL (a : DE) (j : Nat) : DE := fun e P => a e fun x => ∃ i xs, e[j]? = some (some (.d (.int i))) ∧ x.lst = some xs ∧ xs.length ≤ 100000 ∧ (∀ z ∈ xs, isThingI i z) ∧ PySem.W.AllAlike (xs.map (byL i)) ∧ (∀ z ∈ xs, (byL i z).depth ≤ 50) ∧ P (.o (xs.mergeSort (PySem.W.dataLe false (byL i))))
end Bx
/-! B1: the readings of the defs; printed by gen.py -/
namespace Bx
open PySem
abbrev N_fits_low : List Str := ["low", "number"]
def b_fits_low  : DS := sRet (dOrV (dIsN false (dVar 0)) (dOrV (oGt (dVar 1) (dOp Bx.rIx (dVar 0) (dC (.int 0)))) (dAndV (dOp (Bx.rEq false) (dVar 1) (dOp Bx.rIx (dVar 0) (dC (.int 0)))) (dOp Bx.rIx (dVar 0) (dC (.int 1))))))
abbrev N_fits_high : List Str := ["high", "number"]
def b_fits_high  : DS := sRet (dOrV (dIsN false (dVar 0)) (dOrV (oLt (dVar 1) (dOp Bx.rIx (dVar 0) (dC (.int 0)))) (dAndV (dOp (Bx.rEq false) (dVar 1) (dOp Bx.rIx (dVar 0) (dC (.int 0)))) (dOp Bx.rIx (dVar 0) (dC (.int 1))))))
abbrev N_fits_span : List Str := ["span", "number"]
def b_fits_span (S_fits_low : DF) (S_fits_high : DF) : DS := sRet (dAndV (dCall S_fits_low (dCons (dOp Bx.rIx (dVar 0) (dC (.int 0))) (dCons (dVar 1) (dNil)))) (dCall S_fits_high (dCons (dOp Bx.rIx (dVar 0) (dC (.int 1))) (dCons (dVar 1) (dNil)))))
abbrev N_fits : List Str := ["box", "place", "span", "number"]
def b_fits (S_fits_span : DF) : DS := sRet (dF fAll (dCons (dLc (ciZ (dVar 0) (dVar 1)) (.t (.cons (.n 2) (.cons (.n 3) (.nil)))) (dYes) (dCall S_fits_span (dCons (dVar 2) (dCons (dVar 3) (dNil)))) [2, 3]) (dNil)))
abbrev N_plain_span : List Str := ["span", "low", "high", "least", "greatest"]
def b_plain_span  : DS := sSeq (sAsg (dVar 0) (.t (.cons (.n 1) (.cons (.n 2) (.nil))))) (sSeq (sAsg (dTup (dCons (dC .none) (dCons (dC .none) (dNil)))) (.t (.cons (.n 3) (.cons (.n 4) (.nil))))) (sSeq (sIf (dT (dIsN true (dVar 1))) (sSetF (oAdd (dOp Bx.rIx (dVar 1) (dC (.int 0))) (dF fInt (dCons (dNotV (dOp Bx.rIx (dVar 1) (dC (.int 1)))) (dNil)))) 3) (sNext)) (sSeq (sIf (dT (dIsN true (dVar 2))) (sSetF (oSub (dOp Bx.rIx (dVar 2) (dC (.int 0))) (dF fInt (dCons (dNotV (dOp Bx.rIx (dVar 2) (dC (.int 1)))) (dNil)))) 4) (sNext)) (sRet (dTup (dCons (dVar 3) (dCons (dVar 4) (dNil))))))))
abbrev N_is_crossed : List Str := ["pair"]
def b_is_crossed  : DS := sRet (dAndV (dIsN true (dOp Bx.rIx (dVar 0) (dC (.int 0)))) (dAndV (dIsN true (dOp Bx.rIx (dVar 0) (dC (.int 1)))) (oGt (dOp Bx.rIx (dVar 0) (dC (.int 0))) (dOp Bx.rIx (dVar 0) (dC (.int 1))))))
abbrev N_plain_of : List Str := ["pairs", "pair"]
def b_plain_of (S_is_crossed : DF) : DS := sSeq (sIf (dT (dF fAny (dCons (dLc (ciL (dVar 0)) (.n 1) (dYes) (dCall S_is_crossed (dCons (dVar 1) (dNil))) [1]) (dNil)))) (sRet (dF fTuple (dCons (dLc (ciL (dVar 0)) (.n 1) (dYes) (dC (.tuple [.int 1, .int 0])) [1]) (dNil)))) (sNext)) (sRet (dF fTuple (dCons (dVar 0) (dNil))))
abbrev N_plain_box : List Str := ["box", "span"]
def b_plain_box (S_plain_of : DF) (S_plain_span : DF) : DS := sRet (dCall S_plain_of (dCons (dLc (ciT (dVar 0)) (.n 1) (dYes) (dCall S_plain_span (dCons (dVar 1) (dNil))) [1]) (dNil)))
abbrev N_greater_of : List Str := ["one", "other"]
def b_greater_of  : DS := sSeq (sIf (dOr (dT (dIsN false (dVar 0))) (dAnd (dT (dIsN true (dVar 1))) (dT (oGt (dVar 1) (dVar 0))))) (sRet (dVar 1)) (sNext)) (sRet (dVar 0))
abbrev N_lesser_of : List Str := ["one", "other"]
def b_lesser_of  : DS := sSeq (sIf (dOr (dT (dIsN false (dVar 0))) (dAnd (dT (dIsN true (dVar 1))) (dT (oLt (dVar 1) (dVar 0))))) (sRet (dVar 1)) (sNext)) (sRet (dVar 0))
abbrev N_common : List Str := ["one", "other", "pairs", "mine", "its"]
def b_common (S_lesser_of : DF) (S_greater_of : DF) (S_plain_of : DF) : DS := sSeq (sSet (dLst (dNil)) 2) (sSeq (sFor (diZ 0 1) (.t (.cons (.n 3) (.cons (.n 4) (.nil)))) (sApp 2 (dTup (dCons (dCall S_greater_of (dCons (dOp Bx.rIx (dVar 3) (dC (.int 0))) (dCons (dOp Bx.rIx (dVar 4) (dC (.int 0))) (dNil)))) (dCons (dCall S_lesser_of (dCons (dOp Bx.rIx (dVar 3) (dC (.int 1))) (dCons (dOp Bx.rIx (dVar 4) (dC (.int 1))) (dNil)))) (dNil)))))) (sRet (dCall S_plain_of (dCons (dVar 2) (dNil)))))
abbrev N_lies_within : List Str := ["one", "other"]
def b_lies_within (S_common : DF) : DS := sRet (dOp (Bx.rEq false) (dCall S_common (dCons (dVar 0) (dCons (dVar 1) (dNil)))) (dVar 0))
abbrev N_things_in : List Str := ["house", "box", "thing"]
def b_things_in (S_fits : DF) : DS := sRet (dLc (ciT (dOp Bx.rIx (dVar 0) (dC (.int 1)))) (.n 2) (dT (dCall S_fits (dCons (dVar 1) (dCons (dOp Bx.rIx (dVar 2) (dC (.int 1))) (dNil))))) (dVar 2) [2])
abbrev N_names_of : List Str := ["things", "thing"]
def b_names_of  : DS := sRet (dF fTuple (dCons (dLc (ciL (dVar 0)) (.n 1) (dYes) (dOp Bx.rIx (dVar 1) (dC (.int 0))) [1]) (dNil)))
abbrev N_in_order : List Str := ["things"]
def b_in_order  : DS := sRet (dSortP (dVar 0))
abbrev N_answer_of : List Str := ["things", "ask", "word", "thing"]
def b_answer_of (S_names_of : DF) (S_in_order : DF) : DS := sSeq (sSetF (dOp Bx.rIx (dVar 1) (dC (.int 0))) 2) (sSeq (sIf (dT (dOp (Bx.rEq false) (dVar 2) (dC (.str "count")))) (sRet (dF fLen (dCons (dVar 0) (dNil)))) (sNext)) (sSeq (sIf (dT (dOp (Bx.rEq false) (dVar 2) (dC (.str "sum")))) (sRet (dF fSum (dCons (dLc (ciL (dVar 0)) (.n 3) (dYes) (dOp Bx.rIx (dVar 3) (dC (.int 2))) [3]) (dNil)))) (sNext)) (sSeq (sIf (dT (dOp (Bx.rEq false) (dVar 2) (dC (.str "least")))) (sNever) (sNext)) (sSeq (sIf (dT (dOp (Bx.rEq false) (dVar 2) (dC (.str "most")))) (sNever) (sNext)) (sSeq (sIf (dT (dOp (Bx.rEq false) (dVar 2) (dC (.str "all")))) (sRet (dCall S_names_of (dCons (dCall S_in_order (dCons (dVar 0) (dNil))) (dNil)))) (sNext)) (sSeq (sIf (dT (dOp (Bx.rEq false) (dVar 2) (dC (.str "first")))) (sNever) (sNext)) (sSeq (sIf (dT (dOp (Bx.rEq false) (dVar 2) (dC (.str "best")))) (sNever) (sNext)) (sNever))))))))
abbrev N_answer : List Str := ["house", "ask"]
def b_answer (S_answer_of : DF) (S_things_in : DF) : DS := sRet (dCall S_answer_of (dCons (dCall S_things_in (dCons (dVar 0) (dCons (dOp Bx.rIx (dVar 1) (dC (.int 1))) (dNil)))) (dCons (dVar 1) (dNil))))
abbrev N_lies_out : List Str := ["bounds", "plain", "i", "side", "least", "greatest"]
def b_lies_out  : DS := sSeq (sAsg (dOp Bx.rIx (dVar 1) (dVar 2)) (.t (.cons (.n 4) (.cons (.n 5) (.nil))))) (sSeq (sIf (dT (dOp (Bx.rEq false) (dOp Bx.rIx (dVar 1) (dVar 2)) (dC (.tuple [.int 1, .int 0])))) (sRet (dC (.bool true))) (sNext)) (sSeq (sIf (dT (dOp (Bx.rEq false) (dVar 3) (dC (.int 0)))) (sRet (dAndV (dIsN true (dVar 4)) (oLt (dOp Bx.rIx (dOp Bx.rIx (dVar 0) (dVar 2)) (dC (.int 1))) (dVar 4)))) (sNext)) (sRet (dAndV (dIsN true (dVar 5)) (oGt (dOp Bx.rIx (dOp Bx.rIx (dVar 0) (dVar 2)) (dC (.int 0))) (dVar 5))))))
abbrev N_tree_at : List Str := ["tree", "path", "step"]
def b_tree_at  : DS := sSeq (sFor (diT (dVar 1)) (.n 2) (sSeq (sIf (dT (dIsN false (dVar 0))) (sRet (dC .none)) (sNext)) (sSetF (dOp Bx.rIx (dVar 0) (oAdd (dC (.int 2)) (dVar 2))) 0))) (sRet (dVar 0))
abbrev N_by_cover : List Str := ["house", "tree", "box", "parts", "ask", "taken", "part", "name", "thing"]
def b_by_cover (S_tree_at : DF) (S_answer : DF) : DS := sSeq (sSet (dNewD) 5) (sSeq (sFor (diT (dVar 3)) (.n 6) (sIf (dT (dOp (Bx.rEq false) (dOp Bx.rIx (dVar 6) (dC (.int 1))) (dC (.str "in")))) (sUpd 5 (dLc (ciT (dOp Bx.rIx (dCall S_tree_at (dCons (dVar 1) (dCons (dOp Bx.rIx (dVar 6) (dC (.int 0))) (dNil)))) (dC (.int 0)))) (.n 7) (dYes) (dTup (dCons (dVar 7) (dCons (dC (.bool true)) (dNil)))) [7])) (sNext))) (sRet (dCall S_answer (dCons (dTup (dCons (dOp Bx.rIx (dVar 0) (dC (.int 0))) (dCons (dF fTuple (dCons (dLc (ciT (dOp Bx.rIx (dVar 0) (dC (.int 1)))) (.n 8) (dT (dOp rInD (dOp Bx.rIx (dVar 8) (dC (.int 0))) (dVar 5))) (dVar 8) [8]) (dNil))) (dNil)))) (dCons (dVar 4) (dNil))))))
abbrev N_is_count : List Str := ["thing", "many"]
def b_is_count  : DS := sRet (dAndV (dF fIsi (dCons (dVar 0) (dCons (dTy "int") dNil))) (dAndV (dNotV (dF fIsi (dCons (dVar 0) (dCons (dTy "bool") dNil)))) (dChain (dC (.int 0)) (dVar 0) (dVar 1))))
abbrev N_is_path : List Str := ["thing", "step"]
def b_is_path (S_is_count : DF) : DS := sRet (dAndV (dF fIsi (dCons (dVar 0) (dCons (dTy "tuple") dNil))) (dF fAll (dCons (dLc (ciT (dVar 0)) (.n 1) (dYes) (dCall S_is_count (dCons (dVar 1) (dCons (dC (.int 2)) (dNil)))) [1]) (dNil))))
abbrev N_there : List Str := ["tree", "part"]
def b_there (S_is_path : DF) (S_tree_at : DF) : DS := sSeq (sIf (dOr (dNot (dT (dF fIsi (dCons (dVar 1) (dCons (dTy "tuple") dNil))))) (dOr (dT (dOp (Bx.rInS true) (dF fLen (dCons (dVar 1) (dNil))) (dTup (dCons (dC (.int 2)) (dCons (dC (.int 4)) (dNil)))))) (dNot (dT (dCall S_is_path (dCons (dOp Bx.rIx (dVar 1) (dC (.int 0))) (dNil))))))) (sRet (dC .none)) (sNext)) (sSeq (sIf (dNot (dT (dF fIsi (dCons (dOp Bx.rIx (dVar 1) (dC (.int 1))) (dCons (dTy "str") dNil))))) (sRet (dC .none)) (sNext)) (sRet (dCall S_tree_at (dCons (dVar 0) (dCons (dOp Bx.rIx (dVar 1) (dC (.int 0))) (dNil))))))
abbrev N_is_out : List Str := ["plain", "tree", "part"]
def b_is_out (S_is_count : DF) (S_lies_out : DF) : DS := sSeq (sIf (dOr (dT (dOp (Bx.rEq true) (dF fLen (dCons (dVar 2) (dNil))) (dC (.int 4)))) (dOr (dT (dOp (Bx.rEq true) (dOp Bx.rIx (dVar 2) (dC (.int 1))) (dC (.str "out")))) (dOr (dNot (dT (dCall S_is_count (dCons (dOp Bx.rIx (dVar 2) (dC (.int 2))) (dCons (dF fLen (dCons (dVar 0) (dNil))) (dNil)))))) (dNot (dT (dCall S_is_count (dCons (dOp Bx.rIx (dVar 2) (dC (.int 3))) (dCons (dC (.int 2)) (dNil))))))))) (sRet (dC (.bool false))) (sNext)) (sRet (dCall S_lies_out (dCons (dOp Bx.rIx (dVar 1) (dC (.int 1))) (dCons (dVar 0) (dCons (dOp Bx.rIx (dVar 2) (dC (.int 2))) (dCons (dOp Bx.rIx (dVar 2) (dC (.int 3))) (dNil)))))))
abbrev N_is_in : List Str := ["plain", "tree", "part"]
def b_is_in (S_lies_within : DF) : DS := sRet (dAndV (dOp (Bx.rEq false) (dF fLen (dCons (dVar 2) (dNil))) (dC (.int 2))) (dAndV (dOp (Bx.rEq false) (dOp Bx.rIx (dVar 2) (dC (.int 1))) (dC (.str "in"))) (dCall S_lies_within (dCons (dOp Bx.rIx (dVar 1) (dC (.int 1))) (dCons (dVar 0) (dNil))))))
abbrev N_has_each_once : List Str := ["tree", "trees", "names", "one"]
def b_has_each_once  : DS := sSeq (sSet (dLst (dNil)) 2) (sSeq (sFor (diV 1) (.n 3) (sExt 2 (dF fList (dCons (dOp Bx.rIx (dVar 3) (dC (.int 0))) (dNil))))) (sRet (dOp (Bx.rEq false) (dF fSorted (dCons (dVar 2) (dNil))) (dF fList (dCons (dOp Bx.rIx (dVar 0) (dC (.int 0))) (dNil))))))
abbrev N_shows_cover : List Str := ["house", "tree", "box", "thing", "plain", "trees", "one", "part"]
def b_shows_cover (S_plain_box : DF) (S_there : DF) (S_is_in : DF) (S_is_out : DF) (S_has_each_once : DF) : DS := sSeq (sIf (dNot (dT (dF fIsi (dCons (dVar 3) (dCons (dTy "tuple") dNil))))) (sRet (dC (.bool false))) (sNext)) (sSeq (sIf (dT (dIsN false (dVar 1))) (sRet (dOp (Bx.rEq false) (dF fLen (dCons (dVar 3) (dNil))) (dC (.int 0)))) (sNext)) (sSeq (sSetF (dCall S_plain_box (dCons (dVar 2) (dNil))) 4) (sSeq (sSetF (dLc (ciT (dVar 3)) (.n 7) (dYes) (dCall S_there (dCons (dVar 1) (dCons (dVar 7) (dNil)))) [7]) 5) (sSeq (sIf (dT (dOp rInN (dC .none) (dVar 5))) (sRet (dC (.bool false))) (sNext)) (sSeq (sFor (diZ 5 3) (.t (.cons (.n 6) (.cons (.n 7) (.nil)))) (sIf (dAnd (dNot (dT (dCall S_is_in (dCons (dVar 4) (dCons (dVar 6) (dCons (dVar 7) (dNil))))))) (dNot (dT (dCall S_is_out (dCons (dVar 4) (dCons (dVar 6) (dCons (dVar 7) (dNil)))))))) (sRet (dC (.bool false))) (sNext))) (sRet (dCall S_has_each_once (dCons (dVar 1) (dCons (dVar 5) (dNil))))))))))
abbrev N_steps_to : List Str := ["bounds", "place", "total", "number", "low", "high"]
def b_steps_to  : DS := sSeq (sSetF (dC (.int 0)) 2) (sSeq (sFor (diZ 0 1) (.t (.cons (.t (.cons (.n 4) (.cons (.n 5) (.nil)))) (.cons (.n 3) (.nil)))) (sAug 2 (dF fMax3 (dCons (dC (.int 0)) (dCons (oSub (dVar 4) (dVar 3)) (dCons (oSub (dVar 3) (dVar 5)) (dNil))))))) (sRet (dVar 2)))
abbrev N_worths_of : List Str := ["house", "thing"]
def b_worths_of  : DS := sRet (dF fDict (dCons (dLc (ciT (dOp Bx.rIx (dVar 0) (dC (.int 1)))) (.n 1) (dYes) (dTup (dCons (dOp Bx.rIx (dVar 1) (dC (.int 0))) (dCons (dOp Bx.rIx (dVar 1) (dC (.int 2))) (dNil)))) [1]) (dNil)))
abbrev N_key_by : List Str := ["worths", "tree", "kind", "names", "bounds", "name"]
def b_key_by (S_steps_to : DF) : DS := sSeq (sAsg (dSlT (dVar 1) (doN) (doS (dC (.int 2)))) (.t (.cons (.n 3) (.cons (.n 4) (.nil))))) (sSeq (sIf (dT (dOp (Bx.rEq false) (dOp Bx.rIx (dVar 2) (dC (.int 0))) (dC (.str "near")))) (sRet (dTup (dCons (dCall S_steps_to (dCons (dVar 4) (dCons (dOp Bx.rIx (dVar 2) (dC (.int 1))) (dNil)))) (dCons (dOp Bx.rIx (dVar 3) (dC (.int 0))) (dNil))))) (sNext)) (sRet (dTup (dCons (oSub (dC (.int 0)) (dF fMaxL (dCons (dLc (ciT (dVar 3)) (.n 5) (dYes) (dOp rIxD (dVar 0) (dVar 5)) [5]) (dNil)))) (dCons (dOp Bx.rIx (dVar 3) (dC (.int 0))) (dNil))))))
abbrev N_is_name_of : List Str := ["worths", "thing"]
def b_is_name_of  : DS := sRet (dAndV (dF fIsi (dCons (dVar 1) (dCons (dTy "int") dNil))) (dAndV (dNotV (dF fIsi (dCons (dVar 1) (dCons (dTy "bool") dNil)))) (dOp rInD (dVar 1) (dVar 0))))
abbrev N_keys_told : List Str := ["house", "kind", "names", "things", "keys", "name", "far", "thing", "number"]
def b_keys_told (S_steps_to : DF) : DS := sSeq (sSetF (dF fDict (dCons (dLc (ciT (dOp Bx.rIx (dVar 0) (dC (.int 1)))) (.n 7) (dYes) (dTup (dCons (dOp Bx.rIx (dVar 7) (dC (.int 0))) (dCons (dVar 7) (dNil)))) [7]) (dNil))) 3) (sSeq (sSet (dLst (dNil)) 4) (sSeq (sFor (diT (dVar 2)) (.n 5) (sSeq (sSetF (oSub (dC (.int 0)) (dOp Bx.rIx (dOp rIxD (dVar 3) (dVar 5)) (dC (.int 2)))) 6) (sSeq (sIf (dT (dOp (Bx.rEq false) (dOp Bx.rIx (dVar 1) (dC (.int 0))) (dC (.str "near")))) (sSetF (dCall S_steps_to (dCons (dLc (ciT (dOp Bx.rIx (dOp rIxD (dVar 3) (dVar 5)) (dC (.int 1)))) (.n 8) (dYes) (dTup (dCons (dVar 8) (dCons (dVar 8) (dNil)))) [8]) (dCons (dOp Bx.rIx (dVar 1) (dC (.int 1))) (dNil)))) 6) (sNext)) (sApp 4 (dTup (dCons (dVar 6) (dCons (dVar 5) (dNil)))))))) (sRetV 4)))
abbrev N_is_far : List Str := ["worths", "tree", "part", "kind", "keys"]
def b_is_far (S_key_by : DF) : DS := sSeq (sIf (dOr (dT (dOp (Bx.rEq true) (dF fLen (dCons (dVar 2) (dNil))) (dC (.int 2)))) (dT (dOp (Bx.rEq true) (dOp Bx.rIx (dVar 2) (dC (.int 1))) (dC (.str "far"))))) (sRet (dC (.bool false))) (sNext)) (sRet (dOrV (dOp (Bx.rEq false) (dVar 4) (dLst (dNil))) (dOp rGtD (dCall S_key_by (dCons (dVar 0) (dCons (dVar 1) (dCons (dVar 3) (dNil))))) (dOp Bx.rIx (dVar 4) (dNeg (dC (.int 1)))))))
abbrev N_parts_show : List Str := ["house", "tree", "box", "kind", "keys", "parts", "worths", "plain", "names", "trees", "taken", "one", "part", "far", "name"]
def b_parts_show (S_worths_of : DF) (S_plain_box : DF) (S_there : DF) (S_is_in : DF) (S_is_out : DF) (S_is_far : DF) (S_has_each_once : DF) : DS := sSeq (sParF 6 7 (dCall S_worths_of (dCons (dVar 0) (dNil))) (dCall S_plain_box (dCons (dVar 2) (dNil)))) (sSeq (sSetF (dLc (ciL (dVar 4)) (.t (.cons (.n 13) (.cons (.n 14) (.nil)))) (dYes) (dVar 14) [13, 14]) 8) (sSeq (sSetF (dLc (ciT (dVar 5)) (.n 12) (dYes) (dCall S_there (dCons (dVar 1) (dCons (dVar 12) (dNil)))) [12]) 9) (sSeq (sIf (dT (dOp rInN (dC .none) (dVar 9))) (sRet (dC (.bool false))) (sNext)) (sSeq (sSet (dLst (dNil)) 10) (sSeq (sFor (diZ 9 5) (.t (.cons (.n 11) (.cons (.n 12) (.nil)))) (sIf (dAnd (dT (dCall S_is_in (dCons (dVar 7) (dCons (dVar 11) (dCons (dVar 12) (dNil)))))) (dT (dOp (Bx.rEq false) (dF fLen (dCons (dOp Bx.rIx (dVar 11) (dC (.int 0))) (dNil))) (dC (.int 1))))) (sApp 10 (dOp Bx.rIx (dOp Bx.rIx (dVar 11) (dC (.int 0))) (dC (.int 0)))) (sIf (dAnd (dNot (dT (dCall S_is_out (dCons (dVar 7) (dCons (dVar 11) (dCons (dVar 12) (dNil))))))) (dNot (dT (dCall S_is_far (dCons (dVar 6) (dCons (dVar 11) (dCons (dVar 12) (dCons (dVar 3) (dCons (dVar 4) (dNil)))))))))) (sRet (dC (.bool false))) (sNext)))) (sRet (dAndV (dOp (Bx.rEq false) (dF fSorted (dCons (dVar 10) (dNil))) (dF fSorted (dCons (dVar 8) (dNil)))) (dCall S_has_each_once (dCons (dVar 1) (dCons (dVar 9) (dNil)))))))))))
abbrev N_shows_drawn : List Str := ["house", "tree", "box", "kind", "k", "thing", "names", "parts", "worths", "keys", "name", "one", "other", "part"]
def b_shows_drawn (S_worths_of : DF) (S_is_name_of : DF) (S_keys_told : DF) (S_parts_show : DF) : DS := sSeq (sIf (dOr (dNot (dT (dF fIsi (dCons (dVar 5) (dCons (dTy "tuple") dNil))))) (dT (dOp (Bx.rEq true) (dF fLen (dCons (dVar 5) (dNil))) (dC (.int 2))))) (sRet (dC (.bool false))) (sNext)) (sSeq (sAsg (dVar 5) (.t (.cons (.n 6) (.cons (.n 7) (.nil))))) (sSeq (sIf (dOr (dNot (dT (dF fIsi (dCons (dVar 6) (dCons (dTy "tuple") dNil))))) (dNot (dT (dF fIsi (dCons (dVar 7) (dCons (dTy "tuple") dNil)))))) (sRet (dC (.bool false))) (sNext)) (sSeq (sSetF (dCall S_worths_of (dCons (dVar 0) (dNil))) 8) (sSeq (sIf (dOr (dNot (dT (dF fAll (dCons (dLc (ciT (dVar 6)) (.n 10) (dYes) (dCall S_is_name_of (dCons (dVar 8) (dCons (dVar 10) (dNil)))) [10]) (dNil))))) (dT (oGt (dF fLen (dCons (dVar 6) (dNil))) (dVar 4)))) (sRet (dC (.bool false))) (sNext)) (sSeq (sSetF (dCall S_keys_told (dCons (dVar 0) (dCons (dVar 3) (dCons (dVar 6) (dNil))))) 9) (sSeq (sIf (dNot (dT (dF fAll (dCons (dLc (ciZ (dVar 9) (dSlL (dVar 9) (doS (dC (.int 1))) (doN))) (.t (.cons (.n 11) (.cons (.n 12) (.nil)))) (dYes) (dOp rLtD (dVar 11) (dVar 12)) [11, 12]) (dNil))))) (sRet (dC (.bool false))) (sNext)) (sSeq (sIf (dT (dIsN false (dVar 1))) (sRet (dOp (Bx.rEq false) (dF fLen (dCons (dVar 7) (dNil))) (dC (.int 0)))) (sNext)) (sSeq (sIf (dNot (dT (dCall S_parts_show (dCons (dVar 0) (dCons (dVar 1) (dCons (dVar 2) (dCons (dVar 3) (dCons (dVar 9) (dCons (dVar 7) (dNil)))))))))) (sRet (dC (.bool false))) (sNext)) (sRet (dOrV (dOp (Bx.rEq false) (dF fLen (dCons (dVar 6) (dNil))) (dVar 4)) (dOp (Bx.rInS true) (dC (.str "far")) (dLc (ciT (dVar 7)) (.n 13) (dYes) (dOp Bx.rIx (dVar 13) (dC (.int 1))) [13]))))))))))))
abbrev N__law_left : List Str := ["_law_script", "_law_k", "_law_cell", "_law_digits"]
def b__law_left  : DS := sSeq (sSetF (dC (.int 0)) 2) (sSeq (sIf (dT (oGt (dF fLen (dCons (dVar 0) (dNil))) (dC (.int 0)))) (sSetF (dOp Bx.rIx (dVar 0) (oMod (dVar 1) (dF fLen (dCons (dVar 0) (dNil))))) 2) (sNext)) (sSeq (sSetF (oMul (oMod (dF fAbs (dCons (dVar 2) (dNil))) (oPow (dC (.int 10)) (dC (.int 60)))) (dF fInt (dCons (oGe (dF fAbs (dCons (dVar 2) (dNil))) (oPow (dC (.int 10)) (dC (.int 18)))) (dNil)))) 3) (sRet (dLst (dCons (dVar 3) (dCons (oMod (oMul (oAdd (oAdd (oMod (dVar 2) (dC (.int 2305843009213693951))) (oMul (oMul (dC (.int 7919)) (dVar 1)) (dVar 1))) (dC (.int 11))) (dC (.int 48271))) (dC (.int 2147483647))) (dCons (dC (.int 0)) (dNil))))))))
abbrev N__law_house : List Str := ["_law_left_here", "_law_d", "_law_wide", "_law_scale", "_law_things", "_law_name", "_law_k", "_law_place", "_law_far", "_law_i"]
def b__law_house (S__law_pick : DF) : DS := sSeq (sSetF (dOp Bx.rIx (dLst (dCons (dC (.int 1)) (dCons (dC (.int 2)) (dCons (dC (.int 2)) (dCons (dC (.int 3)) (dCons (dC (.int 3)) (dCons (dC (.int 4)) (dNil)))))))) (dCall S__law_pick (dCons (dVar 0) (dCons (dC (.int 6)) (dNil))))) 1) (sSeq (sAsg (dTup (dCons (dOp Bx.rIx (dLst (dCons (dC (.int 1)) (dCons (dC (.int 2)) (dCons (dC (.int 3)) (dCons (dC (.int 5)) (dCons (dC (.int 9)) (dCons (dC (.int 40)) (dNil)))))))) (dCall S__law_pick (dCons (dVar 0) (dCons (dC (.int 6)) (dNil))))) (dCons (dOp Bx.rIx (dLst (dCons (dC (.int 1)) (dCons (dC (.int 1)) (dCons (dC (.int 3)) (dCons (oPow (dC (.int 10)) (dC (.int 15))) (dNil)))))) (dCall S__law_pick (dCons (dVar 0) (dCons (dC (.int 4)) (dNil))))) (dNil)))) (.t (.cons (.n 2) (.cons (.n 3) (.nil))))) (sSeq (sPar 4 5 (dLst (dNil)) (dCall S__law_pick (dCons (dVar 0) (dCons (dC (.int 3)) (dNil))))) (sSeq (sFor (diR (dOp Bx.rIx (dLst (dCons (dC (.int 0)) (dCons (dC (.int 1)) (dCons (dC (.int 2)) (dCons (dC (.int 3)) (dCons (dC (.int 4)) (dCons (dC (.int 6)) (dCons (dC (.int 8)) (dCons (dC (.int 12)) (dCons (dC (.int 20)) (dCons (dC (.int 30)) (dNil)))))))))))) (dCall S__law_pick (dCons (dVar 0) (dCons (dC (.int 10)) (dNil)))))) (.n 6) (sSeq (sSetF (dF fTuple (dCons (dLc (ciR (dVar 1)) (.n 9) (dYes) (oMul (oSub (dCall S__law_pick (dCons (dVar 0) (dCons (oAdd (oMul (dC (.int 2)) (dVar 2)) (dC (.int 1))) (dNil)))) (dVar 2)) (dVar 3)) [9]) (dNil))) 7) (sSeq (sIf (dAnd (dT (dOp (Bx.rEq true) (dVar 4) (dLst (dNil)))) (dT (dOp (Bx.rEq false) (dCall S__law_pick (dCons (dVar 0) (dCons (dC (.int 6)) (dNil)))) (dC (.int 0))))) (sSetF (dOp Bx.rIx (dOp Bx.rIx (dVar 4) (dCall S__law_pick (dCons (dVar 0) (dCons (dF fLen (dCons (dVar 4) (dNil))) (dNil))))) (dC (.int 1))) 7) (sNext)) (sSeq (sSetF (dOp Bx.rIx (dLst (dCons (oPow (dC (.int 10)) (dC (.int 17))) (dCons (dNeg (oPow (dC (.int 10)) (dC (.int 17)))) (dNil)))) (dCall S__law_pick (dCons (dVar 0) (dCons (dC (.int 2)) (dNil))))) 8) (sSeq (sApp 4 (dTup (dCons (dVar 5) (dCons (dVar 7) (dCons (dOp Bx.rIx (dLst (dCons (oSub (dCall S__law_pick (dCons (dVar 0) (dCons (dC (.int 5)) (dNil)))) (dC (.int 2))) (dCons (oSub (dCall S__law_pick (dCons (dVar 0) (dCons (dC (.int 1000)) (dNil)))) (dC (.int 500))) (dCons (dVar 8) (dNil))))) (dCall S__law_pick (dCons (dVar 0) (dCons (dC (.int 3)) (dNil))))) (dNil)))))) (sSetF (oAdd (oAdd (dVar 5) (dC (.int 1))) (dOp Bx.rIx (dLst (dCons (dC (.int 0)) (dCons (dC (.int 0)) (dCons (dC (.int 1)) (dCons (dC (.int 7)) (dCons (dC (.int 40)) (dNil))))))) (dCall S__law_pick (dCons (dVar 0) (dCons (dC (.int 5)) (dNil)))))) 5)))))) (sRet (dTup (dCons (dVar 1) (dCons (dF fTuple (dCons (dVar 4) (dNil))) (dNil))))))))
abbrev N__law_number : List Str := ["_law_left_here", "_law_house_here", "_law_i", "_law_numbers", "_law_thing"]
def b__law_number (S__law_pick : DF) : DS := sSeq (sSetF (dOp Bx.rCat (dLc (ciT (dOp Bx.rIx (dVar 1) (dC (.int 1)))) (.n 4) (dYes) (dOp Bx.rIx (dOp Bx.rIx (dVar 4) (dC (.int 1))) (dVar 2)) [4]) (dLst (dCons (dC (.int 0)) (dNil)))) 3) (sRet (oAdd (dOp Bx.rIx (dVar 3) (dCall S__law_pick (dCons (dVar 0) (dCons (dF fLen (dCons (dVar 3) (dNil))) (dNil))))) (dOp Bx.rIx (dLst (dCons (dC (.int 0)) (dCons (dC (.int 0)) (dCons (dC (.int 0)) (dCons (dC (.int 1)) (dCons (dNeg (dC (.int 1))) (dCons (dC (.int 2)) (dNil)))))))) (dCall S__law_pick (dCons (dVar 0) (dCons (dC (.int 6)) (dNil)))))))
abbrev N__law_box : List Str := ["_law_left_here", "_law_house_here", "_law_spans", "_law_i", "_law_one", "_law_other", "_law_low"]
def b__law_box (S__law_number : DF) (S__law_pick : DF) : DS := sSeq (sSet (dLst (dNil)) 2) (sSeq (sFor (diR (dOp Bx.rIx (dVar 1) (dC (.int 0)))) (.n 3) (sSeq (sParF 4 5 (dCall S__law_number (dCons (dVar 0) (dCons (dVar 1) (dCons (dVar 3) (dNil))))) (dCall S__law_number (dCons (dVar 0) (dCons (dVar 1) (dCons (dVar 3) (dNil)))))) (sSeq (sIf (dAnd (dT (oGt (dVar 4) (dVar 5))) (dT (oGt (dCall S__law_pick (dCons (dVar 0) (dCons (dC (.int 5)) (dNil)))) (dC (.int 0))))) (sParF 4 5 (dVar 5) (dVar 4)) (sNext)) (sSeq (sSetF (dOp Bx.rIx (dLst (dCons (dC .none) (dCons (dTup (dCons (dVar 4) (dCons (dC (.bool true)) (dNil)))) (dCons (dTup (dCons (dVar 4) (dCons (dC (.bool false)) (dNil)))) (dCons (dTup (dCons (dVar 4) (dCons (dC (.bool true)) (dNil)))) (dNil)))))) (dCall S__law_pick (dCons (dVar 0) (dCons (dC (.int 4)) (dNil))))) 6) (sApp 2 (dTup (dCons (dVar 6) (dCons (dOp Bx.rIx (dLst (dCons (dC .none) (dCons (dTup (dCons (dVar 5) (dCons (dC (.bool true)) (dNil)))) (dCons (dTup (dCons (dVar 5) (dCons (dC (.bool false)) (dNil)))) (dCons (dTup (dCons (dVar 5) (dCons (dC (.bool true)) (dNil)))) (dNil)))))) (dCall S__law_pick (dCons (dVar 0) (dCons (dC (.int 4)) (dNil))))) (dNil))))))))) (sRet (dF fTuple (dCons (dVar 2) (dNil)))))
abbrev N__law_kind : List Str := ["_law_left_here", "_law_house_here", "_law_place", "_law_i"]
def b__law_kind (S__law_number : DF) (S__law_pick : DF) : DS := sSeq (sSetF (dF fTuple (dCons (dLc (ciR (dOp Bx.rIx (dVar 1) (dC (.int 0)))) (.n 3) (dYes) (dCall S__law_number (dCons (dVar 0) (dCons (dVar 1) (dCons (dVar 3) (dNil))))) [3]) (dNil))) 2) (sRet (dOp Bx.rIx (dLst (dCons (dTup (dCons (dC (.str "best")) (dNil))) (dCons (dTup (dCons (dC (.str "near")) (dCons (dVar 2) (dNil)))) (dCons (dTup (dCons (dC (.str "near")) (dCons (dVar 2) (dNil)))) (dNil))))) (dCall S__law_pick (dCons (dVar 0) (dCons (dC (.int 3)) (dNil))))))
abbrev N__law_bounds : List Str := ["_law_things", "_law_places", "_law_edges", "_law_i", "_law_numbers", "_law_thing", "_law_place"]
def b__law_bounds  : DS := sSeq (sSetF (dLc (ciL (dVar 0)) (.n 5) (dYes) (dOp Bx.rIx (dVar 5) (dC (.int 1))) [5]) 1) (sSeq (sSet (dLst (dNil)) 2) (sSeq (sFor (diR (dF fLen (dCons (dOp Bx.rIx (dVar 1) (dC (.int 0))) (dNil)))) (.n 3) (sSeq (sSetF (dLc (ciL (dVar 1)) (.n 6) (dYes) (dOp Bx.rIx (dVar 6) (dVar 3)) [6]) 4) (sApp 2 (dTup (dCons (dF fMinL (dCons (dVar 4) (dNil))) (dCons (dF fMaxL (dCons (dVar 4) (dNil))) (dNil))))))) (sRet (dF fTuple (dCons (dVar 2) (dNil))))))
abbrev N__law_grown : List Str := ["_law_left_here", "_law_d", "_law_things", "_law_turn", "_law_names", "_law_i", "_law_row", "_law_cut", "_law_low", "_law_thing"]
def b__law_grown (S__law_bounds : DF) (S__law_pick : DF) (S__law_grown : DF) : DS := sSeq (sSetF (dF fTuple (dCons (dF fSorted (dCons (dLc (ciL (dVar 2)) (.n 9) (dYes) (dOp Bx.rIx (dVar 9) (dC (.int 0))) [9]) (dNil))) (dNil))) 4) (sSeq (sIf (dT (dOp (Bx.rEq false) (dF fLen (dCons (dVar 2) (dNil))) (dC (.int 1)))) (sRet (dTup (dCons (dVar 4) (dCons (dCall S__law_bounds (dCons (dVar 2) (dNil))) (dCons (dC .none) (dCons (dC .none) (dNil))))))) (sNext)) (sSeq (sSetF (dOp Bx.rIx (dLst (dCons (oMod (dVar 3) (dVar 1)) (dCons (dCall S__law_pick (dCons (dVar 0) (dCons (dVar 1) (dNil)))) (dNil)))) (dCall S__law_pick (dCons (dVar 0) (dCons (dC (.int 2)) (dNil))))) 5) (sSeq (sSetF (dSortL (dVar 2) 5) 6) (sSeq (sIf (dT (dOp (Bx.rEq false) (dCall S__law_pick (dCons (dVar 0) (dCons (dC (.int 4)) (dNil)))) (dC (.int 0)))) (sSetF (dOp Bx.rCat (dSl2 true (dVar 6)) (dSl2 false (dVar 6))) 6) (sNext)) (sSeq (sSetF (dOp Bx.rIx (dLst (dCons (oDiv (oAdd (dF fLen (dCons (dVar 6) (dNil))) (dC (.int 1))) (dC (.int 2))) (dCons (oAdd (dC (.int 1)) (dCall S__law_pick (dCons (dVar 0) (dCons (oSub (dF fLen (dCons (dVar 6) (dNil))) (dC (.int 1))) (dNil))))) (dNil)))) (dCall S__law_pick (dCons (dVar 0) (dCons (dC (.int 2)) (dNil))))) 7) (sSeq (sSetF (dCall S__law_grown (dCons (dVar 0) (dCons (dVar 1) (dCons (dSlL (dVar 6) (doN) (doS (dVar 7))) (dCons (oAdd (dVar 3) (dC (.int 1))) (dNil)))))) 8) (sRet (dTup (dCons (dVar 4) (dCons (dCall S__law_bounds (dCons (dVar 2) (dNil))) (dCons (dVar 8) (dCons (dCall S__law_grown (dCons (dVar 0) (dCons (dVar 1) (dCons (dSlL (dVar 6) (doS (dVar 7)) (doN)) (dCons (oAdd (dVar 3) (dC (.int 1))) (dNil)))))) (dNil)))))))))))))
abbrev N__law_tree : List Str := ["_law_left_here", "_law_house_here"]
def b__law_tree (S__law_grown : DF) : DS := sSeq (sIf (dT (dOp (Bx.rEq false) (dOp Bx.rIx (dVar 1) (dC (.int 1))) (dTup (dNil)))) (sRet (dC .none)) (sNext)) (sRet (dCall S__law_grown (dCons (dVar 0) (dCons (dOp Bx.rIx (dVar 1) (dC (.int 0))) (dCons (dF fList (dCons (dOp Bx.rIx (dVar 1) (dC (.int 1))) (dNil))) (dCons (dC (.int 0)) (dNil)))))))
abbrev N__law_plain : List Str := ["_law_box_here", "_law_pairs", "_law_low", "_law_high", "_law_least", "_law_greatest"]
def b__law_plain  : DS := sSeq (sSet (dLst (dNil)) 1) (sSeq (sFor (diT (dVar 0)) (.t (.cons (.n 2) (.cons (.n 3) (.nil)))) (sSeq (sSetF (dIfE (dT (dIsN false (dVar 2))) (dC .none) (oAdd (dOp Bx.rIx (dVar 2) (dC (.int 0))) (dF fInt (dCons (dNotV (dOp Bx.rIx (dVar 2) (dC (.int 1)))) (dNil))))) 4) (sSeq (sSetF (dIfE (dT (dIsN false (dVar 3))) (dC .none) (oSub (dOp Bx.rIx (dVar 3) (dC (.int 0))) (dF fInt (dCons (dNotV (dOp Bx.rIx (dVar 3) (dC (.int 1)))) (dNil))))) 5) (sSeq (sIf (dAnd (dT (dIsN true (dVar 4))) (dAnd (dT (dIsN true (dVar 5))) (dT (oGt (dVar 4) (dVar 5))))) (sRet (dOp Bx.rRepT (dTup (dCons (dTup (dCons (dC (.int 1)) (dCons (dC (.int 0)) (dNil)))) (dNil))) (dF fLen (dCons (dVar 0) (dNil))))) (sNext)) (sApp 1 (dTup (dCons (dVar 4) (dCons (dVar 5) (dNil))))))))) (sRet (dF fTuple (dCons (dVar 1) (dNil)))))
abbrev N__law_beyond : List Str := ["_law_edges", "_law_plain_here", "_law_i", "_law_side", "_law_end"]
def b__law_beyond  : DS := sSeq (sSetF (dOp Bx.rIx (dOp Bx.rIx (dVar 1) (dVar 2)) (dVar 3)) 4) (sSeq (sIf (dT (dOp (Bx.rEq false) (dOp Bx.rIx (dVar 1) (dVar 2)) (dTup (dCons (dC (.int 1)) (dCons (dC (.int 0)) (dNil)))))) (sRet (dC (.bool true))) (sNext)) (sSeq (sIf (dT (dIsN false (dVar 4))) (sRet (dC (.bool false))) (sNext)) (sRet (dOp Bx.rIx (dLst (dCons (oLt (dOp Bx.rIx (dOp Bx.rIx (dVar 0) (dVar 2)) (dC (.int 1))) (dVar 4)) (dCons (oGt (dOp Bx.rIx (dOp Bx.rIx (dVar 0) (dVar 2)) (dC (.int 0))) (dVar 4)) (dNil)))) (dVar 3)))))
abbrev N__law_inside : List Str := ["_law_edges", "_law_plain_here", "_law_low", "_law_high", "_law_least", "_law_greatest"]
def b__law_inside  : DS := sSeq (sIf (dT (dOp (Bx.rEq false) (dOp Bx.rIx (dVar 1) (dC (.int 0))) (dTup (dCons (dC (.int 1)) (dCons (dC (.int 0)) (dNil)))))) (sRet (dC (.bool false))) (sNext)) (sSeq (sFor (diZ 0 1) (.t (.cons (.t (.cons (.n 2) (.cons (.n 3) (.nil)))) (.cons (.t (.cons (.n 4) (.cons (.n 5) (.nil)))) (.nil)))) (sIf (dOr (dAnd (dT (dIsN true (dVar 4))) (dT (oLt (dVar 2) (dVar 4)))) (dAnd (dT (dIsN true (dVar 5))) (dT (oGt (dVar 3) (dVar 5))))) (sRet (dC (.bool false))) (sNext))) (sRet (dC (.bool true))))
abbrev N__law_fits : List Str := ["_law_plain_here", "_law_place", "_law_number_here"]
def b__law_fits (S__law_inside : DF) : DS := sRet (dCall S__law_inside (dCons (dLc (ciT (dVar 1)) (.n 2) (dYes) (dTup (dCons (dVar 2) (dCons (dVar 2) (dNil)))) [2]) (dCons (dVar 0) (dNil))))
abbrev N__law_steps : List Str := ["_law_edges", "_law_place", "_law_number_here", "_law_low", "_law_high"]
def b__law_steps  : DS := sRet (dF fSum (dCons (dLc (ciZ (dVar 0) (dVar 1)) (.t (.cons (.t (.cons (.n 3) (.cons (.n 4) (.nil)))) (.cons (.n 2) (.nil)))) (dYes) (dF fMax3 (dCons (dC (.int 0)) (dCons (oSub (dVar 3) (dVar 2)) (dCons (oSub (dVar 2) (dVar 4)) (dNil))))) [2, 3, 4]) (dNil)))
abbrev N__law_key : List Str := ["_law_house_here", "_law_tree_here", "_law_kind_here", "_law_name", "_law_place", "_law_worth"]
def b__law_key (S__law_steps : DF) : DS := sSeq (sIf (dT (dOp (Bx.rEq false) (dOp Bx.rIx (dVar 2) (dC (.int 0))) (dC (.str "near")))) (sRet (dTup (dCons (dCall S__law_steps (dCons (dOp Bx.rIx (dVar 1) (dC (.int 1))) (dCons (dOp Bx.rIx (dVar 2) (dC (.int 1))) (dNil)))) (dCons (dOp Bx.rIx (dOp Bx.rIx (dVar 1) (dC (.int 0))) (dC (.int 0))) (dNil))))) (sNext)) (sRet (dTup (dCons (dF fMinL (dCons (dLc (ciT (dOp Bx.rIx (dVar 0) (dC (.int 1)))) (.t (.cons (.n 3) (.cons (.n 4) (.cons (.n 5) (.nil))))) (dT (dOp (Bx.rInS false) (dVar 3) (dOp Bx.rIx (dVar 1) (dC (.int 0))))) (oSub (dC (.int 0)) (dVar 5)) [3, 4, 5]) (dNil))) (dCons (dOp Bx.rIx (dOp Bx.rIx (dVar 1) (dC (.int 0))) (dC (.int 0))) (dNil)))))
abbrev N__law_ranked : List Str := ["_law_house_here", "_law_plain_here", "_law_kind_here", "_law_keys", "_law_name", "_law_place", "_law_worth", "_law_one", "_law_far"]
def b__law_ranked (S__law_fits : DF) (S__law_steps : DF) : DS := sSeq (sSet (dLst (dNil)) 3) (sSeq (sFor (diT (dOp Bx.rIx (dVar 0) (dC (.int 1)))) (.t (.cons (.n 4) (.cons (.n 5) (.cons (.n 6) (.nil))))) (sIf (dT (dCall S__law_fits (dCons (dVar 1) (dCons (dVar 5) (dNil))))) (sApp 3 (dTup (dCons (dIfE (dT (dOp (Bx.rEq false) (dOp Bx.rIx (dVar 2) (dC (.int 0))) (dC (.str "best")))) (oSub (dC (.int 0)) (dVar 6)) (dCall S__law_steps (dCons (dLc (ciT (dVar 5)) (.n 7) (dYes) (dTup (dCons (dVar 7) (dCons (dVar 7) (dNil)))) [7]) (dCons (dOp Bx.rIx (dVar 2) (dC (.int 1))) (dNil))))) (dCons (dVar 4) (dNil))))) (sNext))) (sRet (dLc (ciL (dF fSorted (dCons (dVar 3) (dNil)))) (.t (.cons (.n 8) (.cons (.n 4) (.nil)))) (dYes) (dVar 4) [8, 4])))
abbrev N__law_at : List Str := ["_law_tree_here", "_law_path", "_law_step"]
def b__law_at  : DS := sSeq (sFor (diT (dVar 1)) (.n 2) (sSetF (dIfE (dT (dIsN false (dVar 0))) (dC .none) (dOp Bx.rIx (dVar 0) (oAdd (dC (.int 2)) (dVar 2)))) 0)) (sRet (dVar 0))
abbrev N__law_whole : List Str := ["_law_thing", "_law_most"]
def b__law_whole  : DS := sRet (dAndV (dF fIsi (dCons (dVar 0) (dCons (dTy "int") dNil))) (dAndV (dNotV (dF fIsi (dCons (dVar 0) (dCons (dTy "bool") dNil)))) (dChain (dC (.int 0)) (dVar 0) (dVar 1))))
abbrev N__law_there : List Str := ["_law_tree_here", "_law_part", "_law_step"]
def b__law_there (S__law_whole : DF) (S__law_at : DF) : DS := sSeq (sIf (dOr (dNot (dT (dF fIsi (dCons (dVar 1) (dCons (dTy "tuple") dNil))))) (dOr (dT (dOp (Bx.rInS true) (dF fLen (dCons (dVar 1) (dNil))) (dTup (dCons (dC (.int 2)) (dCons (dC (.int 4)) (dNil)))))) (dNot (dT (dF fIsi (dCons (dOp Bx.rIx (dVar 1) (dC (.int 0))) (dCons (dTy "tuple") dNil))))))) (sRet (dC .none)) (sNext)) (sSeq (sIf (dOr (dNot (dT (dF fAll (dCons (dLc (ciT (dOp Bx.rIx (dVar 1) (dC (.int 0)))) (.n 2) (dYes) (dCall S__law_whole (dCons (dVar 2) (dCons (dC (.int 2)) (dNil)))) [2]) (dNil))))) (dNot (dT (dF fIsi (dCons (dOp Bx.rIx (dVar 1) (dC (.int 1))) (dCons (dTy "str") dNil)))))) (sRet (dC .none)) (sNext)) (sRet (dCall S__law_at (dCons (dVar 0) (dCons (dOp Bx.rIx (dVar 1) (dC (.int 0))) (dNil))))))
abbrev N__law_out_right : List Str := ["_law_one", "_law_plain_here", "_law_part"]
def b__law_out_right (S__law_whole : DF) (S__law_beyond : DF) : DS := sSeq (sIf (dOr (dT (dOp (Bx.rEq true) (dF fLen (dCons (dVar 2) (dNil))) (dC (.int 4)))) (dOr (dT (dOp (Bx.rEq true) (dOp Bx.rIx (dVar 2) (dC (.int 1))) (dC (.str "out")))) (dOr (dNot (dT (dCall S__law_whole (dCons (dOp Bx.rIx (dVar 2) (dC (.int 2))) (dCons (dF fLen (dCons (dVar 1) (dNil))) (dNil)))))) (dNot (dT (dCall S__law_whole (dCons (dOp Bx.rIx (dVar 2) (dC (.int 3))) (dCons (dC (.int 2)) (dNil))))))))) (sRet (dC (.bool false))) (sNext)) (sRet (dCall S__law_beyond (dCons (dOp Bx.rIx (dVar 0) (dC (.int 1))) (dCons (dVar 1) (dCons (dOp Bx.rIx (dVar 2) (dC (.int 2))) (dCons (dOp Bx.rIx (dVar 2) (dC (.int 3))) (dNil)))))))
abbrev N__law_is_cover : List Str := ["_law_tree_here", "_law_plain_here", "_law_thing", "_law_names", "_law_part", "_law_one"]
def b__law_is_cover (S__law_there : DF) (S__law_out_right : DF) (S__law_inside : DF) : DS := sSeq (sIf (dOr (dT (dIsN false (dVar 0))) (dNot (dT (dF fIsi (dCons (dVar 2) (dCons (dTy "tuple") dNil)))))) (sRet (dAndV (dF fIsi (dCons (dVar 2) (dCons (dTy "tuple") dNil))) (dOp (Bx.rEq false) (dF fLen (dCons (dVar 2) (dNil))) (dC (.int 0))))) (sNext)) (sSeq (sSet (dLst (dNil)) 3) (sSeq (sFor (diT (dVar 2)) (.n 4) (sSeq (sSetF (dCall S__law_there (dCons (dVar 0) (dCons (dVar 4) (dNil)))) 5) (sSeq (sIf (dT (dIsN false (dVar 5))) (sRet (dC (.bool false))) (sNext)) (sSeq (sIf (dNot (dT (dCall S__law_out_right (dCons (dVar 5) (dCons (dVar 1) (dCons (dVar 4) (dNil))))))) (sIf (dOr (dT (dOp (Bx.rEq true) (dF fLen (dCons (dVar 4) (dNil))) (dC (.int 2)))) (dOr (dT (dOp (Bx.rEq true) (dOp Bx.rIx (dVar 4) (dC (.int 1))) (dC (.str "in")))) (dNot (dT (dCall S__law_inside (dCons (dOp Bx.rIx (dVar 5) (dC (.int 1))) (dCons (dVar 1) (dNil)))))))) (sRet (dC (.bool false))) (sNext)) (sNext)) (sExt 3 (dF fList (dCons (dOp Bx.rIx (dVar 5) (dC (.int 0))) (dNil)))))))) (sRet (dOp (Bx.rEq false) (dF fSorted (dCons (dVar 3) (dNil))) (dF fList (dCons (dOp Bx.rIx (dVar 0) (dC (.int 0))) (dNil)))))))
abbrev N__law_thing_key : List Str := ["_law_house_here", "_law_kind_here", "_law_name", "_law_own", "_law_place", "_law_worth", "_law_one"]
def b__law_thing_key (S__law_steps : DF) : DS := sSeq (sFor (diT (dOp Bx.rIx (dVar 0) (dC (.int 1)))) (.t (.cons (.n 3) (.cons (.n 4) (.cons (.n 5) (.nil))))) (sIf (dT (dOp (Bx.rEq false) (dVar 3) (dVar 2))) (sRet (dTup (dCons (dIfE (dT (dOp (Bx.rEq false) (dOp Bx.rIx (dVar 1) (dC (.int 0))) (dC (.str "best")))) (oSub (dC (.int 0)) (dVar 5)) (dCall S__law_steps (dCons (dLc (ciT (dVar 4)) (.n 6) (dYes) (dTup (dCons (dVar 6) (dCons (dVar 6) (dNil)))) [6]) (dCons (dOp Bx.rIx (dVar 1) (dC (.int 1))) (dNil))))) (dCons (dVar 3) (dNil))))) (sNext))) (sRet (dC .none))
abbrev N__law_show : List Str := ["_law_house_here", "_law_tree_here", "_law_plain_here", "_law_kind_here", "_law_keys", "_law_parts", "_law_names", "_law_taken", "_law_part", "_law_one", "_law_far", "_law_name"]
def b__law_show (S__law_there : DF) (S__law_inside : DF) (S__law_key : DF) (S__law_out_right : DF) : DS := sSeq (sPar 6 7 (dLst (dNil)) (dLst (dNil))) (sSeq (sFor (diT (dVar 5)) (.n 8) (sSeq (sSetF (dCall S__law_there (dCons (dVar 1) (dCons (dVar 8) (dNil)))) 9) (sSeq (sIf (dT (dIsN false (dVar 9))) (sRet (dC (.bool false))) (sNext)) (sSeq (sIf (dAnd (dT (dOp (Bx.rEq false) (dSlT (dVar 8) (doS (dC (.int 1))) (doN)) (dTup (dCons (dC (.str "in")) (dNil))))) (dAnd (dT (dOp (Bx.rEq false) (dF fLen (dCons (dOp Bx.rIx (dVar 9) (dC (.int 0))) (dNil))) (dC (.int 1)))) (dT (dCall S__law_inside (dCons (dOp Bx.rIx (dVar 9) (dC (.int 1))) (dCons (dVar 2) (dNil))))))) (sApp 7 (dOp Bx.rIx (dOp Bx.rIx (dVar 9) (dC (.int 0))) (dC (.int 0)))) (sIf (dT (dOp (Bx.rEq false) (dSlT (dVar 8) (doS (dC (.int 1))) (doN)) (dTup (dCons (dC (.str "far")) (dNil))))) (sIf (dAnd (dT (dOp (Bx.rEq true) (dVar 4) (dLst (dNil)))) (dT (dOp rLeD (dCall S__law_key (dCons (dVar 0) (dCons (dVar 9) (dCons (dVar 3) (dNil))))) (dOp Bx.rIx (dVar 4) (dNeg (dC (.int 1))))))) (sRet (dC (.bool false))) (sNext)) (sIf (dNot (dT (dCall S__law_out_right (dCons (dVar 9) (dCons (dVar 2) (dCons (dVar 8) (dNil))))))) (sRet (dC (.bool false))) (sNext)))) (sExt 6 (dF fList (dCons (dOp Bx.rIx (dVar 9) (dC (.int 0))) (dNil)))))))) (sRet (dAndV (dOp (Bx.rEq false) (dF fSorted (dCons (dVar 6) (dNil))) (dF fList (dCons (dOp Bx.rIx (dVar 1) (dC (.int 0))) (dNil)))) (dOp (Bx.rEq false) (dF fSorted (dCons (dVar 7) (dNil))) (dF fSorted (dCons (dLc (ciL (dVar 4)) (.t (.cons (.n 10) (.cons (.n 11) (.nil)))) (dYes) (dVar 11) [10, 11]) (dNil)))))))
abbrev N__law_is_paper : List Str := ["_law_house_here", "_law_tree_here", "_law_plain_here", "_law_kind_here", "_law_k", "_law_thing", "_law_names", "_law_parts", "_law_keys", "_law_name", "_law_one", "_law_other", "_law_part"]
def b__law_is_paper (S__law_whole : DF) (S__law_thing_key : DF) (S__law_show : DF) : DS := sSeq (sIf (dOr (dNot (dT (dF fIsi (dCons (dVar 5) (dCons (dTy "tuple") dNil))))) (dT (dOp (Bx.rEq true) (dF fLen (dCons (dVar 5) (dNil))) (dC (.int 2))))) (sRet (dC (.bool false))) (sNext)) (sSeq (sAsg (dVar 5) (.t (.cons (.n 6) (.cons (.n 7) (.nil))))) (sSeq (sIf (dOr (dNot (dT (dF fIsi (dCons (dVar 6) (dCons (dTy "tuple") dNil))))) (dOr (dNot (dT (dF fIsi (dCons (dVar 7) (dCons (dTy "tuple") dNil))))) (dT (oGt (dF fLen (dCons (dVar 6) (dNil))) (dVar 4))))) (sRet (dC (.bool false))) (sNext)) (sSeq (sIf (dNot (dT (dF fAll (dCons (dLc (ciT (dVar 6)) (.n 9) (dYes) (dCall S__law_whole (dCons (dVar 9) (dCons (oPow (dC (.int 10)) (dC (.int 18))) (dNil)))) [9]) (dNil))))) (sRet (dC (.bool false))) (sNext)) (sSeq (sSetF (dLc (ciT (dVar 6)) (.n 9) (dYes) (dCall S__law_thing_key (dCons (dVar 0) (dCons (dVar 3) (dCons (dVar 9) (dNil))))) [9]) 8) (sSeq (sIf (dOr (dT (dOp rInN (dC .none) (dVar 8))) (dNot (dT (dF fAll (dCons (dLc (ciZ (dVar 8) (dSlL (dVar 8) (doS (dC (.int 1))) (doN))) (.t (.cons (.n 10) (.cons (.n 11) (.nil)))) (dYes) (dOp rLtD (dVar 10) (dVar 11)) [10, 11]) (dNil)))))) (sRet (dC (.bool false))) (sNext)) (sSeq (sIf (dT (dIsN false (dVar 1))) (sRet (dOp (Bx.rEq false) (dVar 7) (dTup (dNil)))) (sNext)) (sSeq (sIf (dNot (dT (dCall S__law_show (dCons (dVar 0) (dCons (dVar 1) (dCons (dVar 2) (dCons (dVar 3) (dCons (dVar 8) (dCons (dVar 7) (dNil)))))))))) (sRet (dC (.bool false))) (sNext)) (sRet (dOrV (dOp (Bx.rEq false) (dF fLen (dCons (dVar 6) (dNil))) (dVar 4)) (dOp (Bx.rInS true) (dC (.str "far")) (dLc (ciT (dVar 7)) (.n 12) (dYes) (dOp Bx.rIx (dVar 12) (dC (.int 1))) [12])))))))))))
abbrev N__law_parted : List Str := ["_law_left_here", "_law_tree_here", "_law_plain_here", "_law_path", "_law_often", "_law_low", "_law_sides", "_law_k"]
def b__law_parted (S__law_pick : DF) (S__law_parted : DF) (S__law_beyond : DF) : DS := sSeq (sIf (dAnd (dT (dIsN true (dOp Bx.rIx (dVar 1) (dC (.int 2))))) (dT (oLt (dCall S__law_pick (dCons (dVar 0) (dCons (dC (.int 6)) (dNil)))) (dVar 4)))) (sSeq (sSetF (dCall S__law_parted (dCons (dVar 0) (dCons (dOp Bx.rIx (dVar 1) (dC (.int 2))) (dCons (dVar 2) (dCons (dOp Bx.rCatT (dVar 3) (dTup (dCons (dC (.int 0)) (dNil)))) (dCons (dVar 4) (dNil))))))) 5) (sRet (dOp Bx.rCat (dVar 5) (dCall S__law_parted (dCons (dVar 0) (dCons (dOp Bx.rIx (dVar 1) (dC (.int 3))) (dCons (dVar 2) (dCons (dOp Bx.rCatT (dVar 3) (dTup (dCons (dC (.int 1)) (dNil)))) (dCons (dVar 4) (dNil)))))))))) (sNext)) (sSeq (sSetF (dLc (ciR (oMul (dC (.int 2)) (dF fLen (dCons (dVar 2) (dNil))))) (.n 7) (dT (dCall S__law_beyond (dCons (dOp Bx.rIx (dVar 1) (dC (.int 1))) (dCons (dVar 2) (dCons (oDiv (dVar 7) (dC (.int 2))) (dCons (oMod (dVar 7) (dC (.int 2))) (dNil))))))) (dVar 7) [7]) 6) (sSeq (sIf (dT (dOp (Bx.rEq false) (dCall S__law_pick (dCons (dVar 0) (dCons (dC (.int 25)) (dNil)))) (dC (.int 0)))) (sSetF (dSlL (dLst (dCons (dCall S__law_pick (dCons (dVar 0) (dCons (oMul (dC (.int 2)) (dF fLen (dCons (dVar 2) (dNil)))) (dNil)))) (dNil))) (doN) (doS (dCall S__law_pick (dCons (dVar 0) (dCons (dC (.int 2)) (dNil)))))) 6) (sNext)) (sSeq (sIf (dT (dOp (Bx.rEq false) (dVar 6) (dLst (dNil)))) (sRet (dLst (dCons (dTup (dCons (dVar 3) (dCons (dC (.str "in")) (dNil)))) (dNil)))) (sNext)) (sSeq (sSetF (dOp Bx.rIx (dVar 6) (dCall S__law_pick (dCons (dVar 0) (dCons (dF fLen (dCons (dVar 6) (dNil))) (dNil))))) 7) (sRet (dLst (dCons (dTup (dCons (dVar 3) (dCons (dC (.str "out")) (dCons (oDiv (dVar 7) (dC (.int 2))) (dCons (oMod (dVar 7) (dC (.int 2))) (dNil)))))) (dNil))))))))
abbrev N__law_cover_right : List Str := ["_law_house_here", "_law_tree_here", "_law_box_here", "_law_plain_here", "_law_parts", "_law_found", "_law_names", "_law_worths", "_law_told", "_law_name", "_law_place", "_law_worth", "_law_word"]
def b__law_cover_right (S_shows_cover : DF) (S__law_is_cover : DF) (S__law_fits : DF) (S_by_cover : DF) : DS := sSeq (sSetF (dCall S_shows_cover (dCons (dVar 0) (dCons (dVar 1) (dCons (dVar 2) (dCons (dVar 4) (dNil)))))) 5) (sSeq (sIf (dOr (dNot (dT (dF fIsi (dCons (dVar 5) (dCons (dTy "bool") dNil))))) (dT (dOp (Bx.rEq true) (dVar 5) (dCall S__law_is_cover (dCons (dVar 1) (dCons (dVar 3) (dCons (dVar 4) (dNil)))))))) (sRet (dC (.bool false))) (sNext)) (sSeq (sIf (dNot (dT (dVar 5))) (sRet (dC (.bool true))) (sNext)) (sSeq (sSetF (dF fSorted (dCons (dLc (ciT (dOp Bx.rIx (dVar 0) (dC (.int 1)))) (.t (.cons (.n 9) (.cons (.n 10) (.cons (.n 11) (.nil))))) (dT (dCall S__law_fits (dCons (dVar 3) (dCons (dVar 10) (dNil))))) (dTup (dCons (dVar 10) (dCons (dVar 9) (dNil)))) [9, 10, 11]) (dNil))) 6) (sSeq (sSetF (dLc (ciT (dOp Bx.rIx (dVar 0) (dC (.int 1)))) (.t (.cons (.n 9) (.cons (.n 10) (.cons (.n 11) (.nil))))) (dT (dCall S__law_fits (dCons (dVar 3) (dCons (dVar 10) (dNil))))) (dVar 11) [9, 10, 11]) 7) (sSeq (sSetF (dLc (ciT (dTup (dCons (dC (.str "count")) (dCons (dC (.str "sum")) (dCons (dC (.str "all")) (dNil)))))) (.n 12) (dYes) (dCall S_by_cover (dCons (dVar 0) (dCons (dVar 1) (dCons (dVar 2) (dCons (dVar 4) (dCons (dTup (dCons (dVar 12) (dCons (dVar 2) (dNil)))) (dNil))))))) [12]) 8) (sRet (dOp (Bx.rEq false) (dVar 8) (dLst (dCons (dF fLen (dCons (dVar 6) (dNil))) (dCons (dF fSum (dCons (dVar 7) (dNil))) (dCons (dF fTuple (dCons (dLc (ciL (dVar 6)) (.t (.cons (.n 10) (.cons (.n 9) (.nil)))) (dYes) (dVar 9) [10, 9]) (dNil))) (dNil))))))))))))
abbrev N__law_drawn_right : List Str := ["_law_left_here", "_law_house_here", "_law_tree_here", "_law_box_here", "_law_plain_here", "_law_parts", "_law_kind_here", "_law_names", "_law_many", "_law_row", "_law_part", "_law_one", "_law_taken", "_law_paper", "_law_thing", "_law_found", "_law_due"]
def b__law_drawn_right (S__law_kind : DF) (S__law_ranked : DF) (S__law_pick : DF) (S__law_at : DF) (S_shows_drawn : DF) (S__law_is_paper : DF) : DS := sSeq (sSetF (dCall S__law_kind (dCons (dVar 0) (dCons (dVar 1) (dNil)))) 6) (sSeq (sSetF (dCall S__law_ranked (dCons (dVar 1) (dCons (dVar 4) (dCons (dVar 6) (dNil))))) 7) (sSeq (sSetF (dCall S__law_pick (dCons (dVar 0) (dCons (oAdd (dF fLen (dCons (dVar 7) (dNil))) (dC (.int 2))) (dNil)))) 8) (sSeq (sSet (dLst (dNil)) 9) (sSeq (sFor (diT (dVar 5)) (.n 10) (sSeq (sSetF (dCall S__law_at (dCons (dVar 2) (dCons (dOp Bx.rIx (dVar 10) (dC (.int 0))) (dNil)))) 11) (sSeq (sSetF (dAndV (dOp (Bx.rInS false) (dOp Bx.rIx (dOp Bx.rIx (dVar 11) (dC (.int 0))) (dC (.int 0))) (dSlL (dVar 7) (doN) (doS (dVar 8)))) (dOp (Bx.rEq false) (dF fLen (dCons (dOp Bx.rIx (dVar 11) (dC (.int 0))) (dNil))) (dC (.int 1)))) 12) (sApp 9 (dIfE (dAnd (dT (dOp (Bx.rEq false) (dOp Bx.rIx (dVar 10) (dC (.int 1))) (dC (.str "in")))) (dNot (dT (dVar 12)))) (dTup (dCons (dOp Bx.rIx (dVar 10) (dC (.int 0))) (dCons (dC (.str "far")) (dNil)))) (dVar 10)))))) (sSeq (sSetF (dTup (dCons (dF fTuple (dCons (dSlL (dVar 7) (doN) (doS (dVar 8))) (dNil))) (dCons (dF fTuple (dCons (dVar 9) (dNil))) (dNil)))) 13) (sSeq (sFor (diT (dTup (dCons (dVar 13) (dCons (dTup (dCons (dF fTuple (dCons (dSlL (dVar 7) (doS (dC (.int 1))) (doS (oAdd (dVar 8) (dC (.int 1))))) (dNil))) (dCons (dF fTuple (dCons (dVar 9) (dNil))) (dNil)))) (dNil))))) (.n 14) (sSeq (sSetF (dCall S_shows_drawn (dCons (dVar 1) (dCons (dVar 2) (dCons (dVar 3) (dCons (dVar 6) (dCons (dVar 8) (dCons (dVar 14) (dNil)))))))) 15) (sSeq (sSetF (dCall S__law_is_paper (dCons (dVar 1) (dCons (dVar 2) (dCons (dVar 4) (dCons (dVar 6) (dCons (dVar 8) (dCons (dVar 14) (dNil)))))))) 16) (sIf (dOr (dNot (dT (dF fIsi (dCons (dVar 15) (dCons (dTy "bool") dNil))))) (dT (dOp (Bx.rEq true) (dVar 15) (dVar 16)))) (sRet (dC (.bool false))) (sNext))))) (sRet (dC (.bool true)))))))))
end Bx
/-! Bx2: the data in the heap, and the rules -/
namespace Bx
open PySem PySem.Spec PyProof.Rows L2
open LamX (Tabs)

def IsRng (H : Hp) (a : Addr) : Prop := ∃ x y z : Int, H a = some (.lst [.int x, .int y, .int z])
abbrev Tb := List (Addr × Str)
/-- free, but for a table of code -/
def Fr (H : Hp) (a : Addr) : Prop := ∀ o, H a = some o → ∃ ps, o = .tbl ps
theorem Fr.of {H : Hp} {a : Addr} (h : H a = none) : Fr H a := fun o e => by
  rw [h] at e
  cases e
theorem Fr.no {H : Hp} {a : Addr} {o : HO} (f : Fr H a) (h : H a = some o) (n : ∀ ps, o ≠ .tbl ps) : False := by
  obtain ⟨ps, e⟩ := f o h
  exact n ps e
/-- what a def leaves of the heap: all but the picks' state and the tables of code -/
structure Ext (ρ : Option Addr) (T : Tb) (H H' : Hp) : Prop where
  st : ∀ a o, H a = some o → some a ≠ ρ → (∀ ps, o ≠ .tbl ps) → H' a = some o
  rg : ∀ a, ρ = some a → IsRng H a → IsRng H' a
  tb : Tabs T H → Tabs T H'
  fr : ∀ a, Fr H' a → Fr H a
section
variable {ρ : Option Addr} {T : Tb} {H H1 H2 H3 : Hp}
theorem Ext.of (e : ∀ a o, H a = some o → H1 a = some o) : Ext ρ T H H1 where
  st := fun a o h _ _ => e a o h
  rg := fun a _ ⟨x, y, z, h⟩ => ⟨x, y, z, e _ _ h⟩
  tb := fun t => t.ext e
  fr := fun a h o q => h o (e a o q)
theorem Ext.refl : Ext ρ T H H := .of fun _ _ h => h
theorem Ext.trans (a : Ext ρ T H H1) (b : Ext ρ T H1 H2) : Ext ρ T H H2 where
  st := fun c o h n m => b.st c o (a.st c o h n m) n m
  rg := fun c e h => b.rg c e (a.rg c e h)
  tb := fun t => b.tb (a.tb t)
  fr := fun c h => a.fr c (b.fr c h)
theorem Ext.new {p : Addr} {o : HO} (h : H p = none) : Ext ρ T H (upd H p o) := .of fun a u e => by
  rw [upd_ne (ne_of_none e h)]
  exact e
end

mutual
inductive RD (K : PySem.W.Frag) (H : Hp) : V → PyData → Prop
  | non : RD K H .non .none
  | bl (b : Bool) : RD K H (.bl b) (.bool b)
  | int (i : Int) : RD K H (.int i) (.int i)
  | str (x : Str) (h : PyData.canLay0 (.str x) = true) : RD K H (.str x) (.str x)
  | tup {a : Addr} {vs : List V} {ds : List PyData} : SqT K H a vs → RDs K H vs ds → RD K H (.ref a) (.tuple ds)
inductive RDs (K : PySem.W.Frag) (H : Hp) : List V → List PyData → Prop
  | nil : RDs K H [] []
  | cons {v : V} {vs : List V} {d : PyData} {ds : List PyData} : RD K H v d → RDs K H vs ds → RDs K H (v :: vs) (d :: ds)
end
section
variable {K : PySem.W.Frag} {H H' : Hp}
mutual
theorem RD.keep (k : ∀ a vs, SqT K H a vs → SqT K H' a vs) : ∀ (d : PyData) (v : V), RD K H v d → RD K H' v d
  | .none, _, h => by cases h; exact .non
  | .bool b, _, h => by cases h; exact .bl b
  | .int i, _, h => by cases h; exact .int i
  | .str x, _, h => by cases h with | str _ h => exact .str x h
  | .tuple ds, _, h => by
    cases h with
    | tup hs ha => exact .tup (k _ _ hs) (RDs.keep k ds _ ha)
  | .list _, _, h => by cases h
  | .dict _, _, h => by cases h
theorem RDs.keep (k : ∀ a vs, SqT K H a vs → SqT K H' a vs) : ∀ (ds : List PyData) (vs : List V), RDs K H vs ds → RDs K H' vs ds
  | [], _, h => by cases h; exact .nil
  | d :: ds, _, h => by
    cases h with
    | cons h1 h2 => exact .cons (RD.keep k d _ h1) (RDs.keep k ds _ h2)
end
mutual
theorem RD.dp : ∀ (d : PyData) (v : V), RD K H v d → Dp K H v d
  | .none, _, h => by cases h; exact .non
  | .bool b, _, h => by cases h; exact .bl b
  | .int i, _, h => by cases h; exact .int i
  | .str x, _, h => by cases h with | str _ h => exact .str x
  | .tuple ds, _, h => by
    cases h with
    | tup hs ha => exact .tup hs (RDs.dp ds _ ha)
  | .list _, _, h => by cases h
  | .dict _, _, h => by cases h
theorem RDs.dp : ∀ (ds : List PyData) (vs : List V), RDs K H vs ds → DpAll K H vs ds
  | [], _, h => by cases h; exact .nil
  | d :: ds, _, h => by
    cases h with
    | cons h1 h2 => exact .cons (RD.dp d _ h1) (RDs.dp ds _ h2)
end
mutual
theorem RD.lay : ∀ (d : PyData) (v : V), RD K H v d → d.canLay0 = true
  | .none, _, _ => by simp only [PyData.canLay0]
  | .bool b, _, _ => by simp only [PyData.canLay0]
  | .int i, _, _ => by simp only [PyData.canLay0]
  | .str x, _, h => by cases h with | str _ h => exact h
  | .tuple ds, _, h => by
    cases h with
    | tup hs ha =>
      simp only [PyData.canLay0]
      exact RDs.lay ds _ ha
  | .list _, _, h => by cases h
  | .dict _, _, h => by cases h
theorem RDs.lay : ∀ (ds : List PyData) (vs : List V), RDs K H vs ds → PyData.canLayAll0 ds = true
  | [], _, _ => by simp only [PyData.canLayAll0]
  | d :: ds, _, h => by
    cases h with
    | cons h1 h2 =>
      simp only [PyData.canLayAll0, RD.lay d _ h1, RDs.lay ds _ h2, Bool.and_self]
end
theorem RDs.length : ∀ {vs : List V} {ds : List PyData}, RDs K H vs ds → vs.length = ds.length
  | _, _, .nil => rfl
  | _, _, .cons _ t => by rw [List.length_cons, List.length_cons, RDs.length t]
theorem RDs.get : ∀ {vs : List V} {ds : List PyData} {i : Nat} {d : PyData}, RDs K H vs ds → ds[i]? = some d → ∃ v, vs[i]? = some v ∧ RD K H v d
  | _, _, _, _, .nil, e => by simp at e
  | _, _, 0, _, .cons r _, e => by simp at e; subst e; exact ⟨_, rfl, r⟩
  | _, _, i + 1, _, .cons _ t, e => by
    obtain ⟨v, h1, h2⟩ := RDs.get (i := i) t (by simpa using e)
    exact ⟨v, by simpa using h1, h2⟩
theorem RDs.get' : ∀ {vs : List V} {ds : List PyData} {i : Nat} {v : V}, RDs K H vs ds → vs[i]? = some v → ∃ d, ds[i]? = some d ∧ RD K H v d
  | _, _, _, _, .nil, e => by simp at e
  | _, _, 0, _, .cons r _, e => by simp at e; subst e; exact ⟨_, rfl, r⟩
  | _, _, i + 1, _, .cons _ t, e => by
    obtain ⟨v, h1, h2⟩ := RDs.get' (i := i) t (by simpa using e)
    exact ⟨v, by simpa using h1, h2⟩
theorem RDs.append : ∀ {vs ws : List V} {ds es : List PyData}, RDs K H vs ds → RDs K H ws es → RDs K H (vs ++ ws) (ds ++ es)
  | _, _, _, _, .nil, s => s
  | _, _, _, _, .cons r t, s => .cons r (RDs.append t s)
theorem RDs.drop : ∀ {vs : List V} {ds : List PyData} (n : Nat), RDs K H vs ds → RDs K H (vs.drop n) (ds.drop n)
  | _, _, 0, r => r
  | _, _, _ + 1, .nil => .nil
  | _, _, n + 1, .cons _ t => RDs.drop n t
theorem RDs.take : ∀ {vs : List V} {ds : List PyData} (n : Nat), RDs K H vs ds → RDs K H (vs.take n) (ds.take n)
  | _, _, 0, _ => .nil
  | _, _, _ + 1, .nil => .nil
  | _, _, n + 1, .cons r t => .cons r (RDs.take n t)
theorem RDs.cut {vs : List V} {ds : List PyData} (r : RDs K H vs ds) (lo hi : Option Int) : RDs K H (cutV vs lo hi) (cut ds lo hi) := by
  unfold cutV Bx.cut
  rw [r.length]
  exact (r.drop _).take _
theorem RDs.ints : ∀ {ns : List Int} {vs : List V}, RDs K H vs (ns.map .int) → vs = ns.map V.int
  | [], _, .nil => rfl
  | n :: ns, v :: vs, h => by
    have h' : RDs K H (v :: vs) (.int n :: ns.map .int) := h
    cases h' with
    | cons h1 h2 =>
      cases h1
      rw [RDs.ints h2]
      rfl
theorem RDs.ofInts : ∀ (ns : List Int), RDs K H (ns.map V.int) (ns.map .int)
  | [] => .nil
  | n :: ns => .cons (.int n) (RDs.ofInts ns)
theorem RDs.bools : ∀ {bs : List Bool} {vs : List V}, RDs K H vs (bs.map .bool) → vs = bs.map V.bl
  | [], _, .nil => rfl
  | b :: bs, v :: vs, h => by
    have h' : RDs K H (v :: vs) (.bool b :: bs.map .bool) := h
    cases h' with
    | cons h1 h2 =>
      cases h1
      rw [RDs.bools h2]
      rfl
theorem RDs.rep {vs : List V} {ds : List PyData} (r : RDs K H vs ds) : ∀ k : Nat, RDs K H (List.replicate k vs).flatten (List.replicate k ds).flatten
  | 0 => .nil
  | k + 1 => by
    rw [List.replicate_succ, List.replicate_succ, List.flatten_cons, List.flatten_cons]
    exact r.append (RDs.rep r k)
end

/-! ### values of names -/
def RF (K : PySem.W.Frag) (H : Hp) (kvs : List (Key × V)) (f : Int → Option PyData) : Prop := ∀ n : Int, match valV kvs (Sum.inl n), f n with
  | some v, some d => RD K H v d
  | none, none => True
  | _, _ => False
def SqS (ρ : Option Addr) (K : PySem.W.Frag) (H : Hp) (a : Addr) (xs : List V) : Prop :=
  (Rd H a (.lst xs) ∧ some a ≠ ρ) ∨
    ∃ (o : Obj) (its : Array Value) (n : Nat), K.lookup a = some o ∧ o.cls = .type "list" ∧ o.dict = none ∧ o.data = .seq its n ∧ its.size ≤ sizeLine ∧ Vals xs its.toList
theorem SqS.sq {ρ : Option Addr} {K : PySem.W.Frag} {H : Hp} {a : Addr} {xs : List V} (h : SqS ρ K H a xs) : SqL K H a xs := by
  rcases h with ⟨h, _⟩ | h
  · exact .inl h
  · exact .inr h
/-- the value v stands for x in H; what is new is new since Hs -/
def RV (ρ : Option Addr) (K : PySem.W.Frag) (Hs H : Hp) (v : V) : Val → Prop
  | .d x => RD K H v x
  | .l xs => ∃ a vs, v = .ref a ∧ some a ≠ ρ ∧ H a = some (.lst vs) ∧ RDs K H vs xs
  | .o xs => ∃ a vs, v = .ref a ∧ some a ≠ ρ ∧ Fr Hs a ∧ H a = some (.lst vs) ∧ RDs K H vs xs
  | .rng => ∃ a, v = .ref a ∧ ρ = some a
  | .dk f => ∃ a kvs, v = .ref a ∧ some a ≠ ρ ∧ H a = some (.dK kvs) ∧ RF K H kvs f
  | .dn n f => ∃ a kvs, v = .ref a ∧ some a ≠ ρ ∧ Fr Hs a ∧ H a = some (.dK kvs) ∧ RF K H kvs f ∧ kvs.length ≤ n
  | .s ns => ∃ a, v = .ref a ∧ SqS ρ K H a (ns.map V.int)
  | .ty n => v = .ty n
def Live (ρ : Option Addr) (H : Hp) : Prop := ∀ a, ρ = some a → IsRng H a
section
variable {ρ : Option Addr} {T : Tb} {K : PySem.W.Frag} {Hs H H1 H2 H' : Hp} {v : V}
theorem Ext.live (e : Ext ρ T H H') (l : Live ρ H) : Live ρ H' := fun a h => e.rg a h (l a h)
theorem Live.ne (l : Live ρ H) {a : Addr} {o : HO} (h : H a = some o) (n : ∀ vs, o ≠ .lst vs) : some a ≠ ρ := fun e => by
  obtain ⟨x, y, z, q⟩ := l a e.symm
  rw [h] at q
  exact n _ (Option.some.inj q)
theorem Ext.tup (e : Ext ρ T H H') (l : Live ρ H) : ∀ a vs, SqT K H a vs → SqT K H' a vs := fun a vs h => by
  rcases h with (h | ⟨o, h⟩) | h
  · exact .inl (.inl (e.st a _ h (l.ne h fun _ z => nomatch z) fun _ z => nomatch z))
  · exact .inl (.inr ⟨o, e.st a _ h (l.ne h fun _ z => nomatch z) fun _ z => nomatch z⟩)
  · exact .inr h
theorem RD.ext {d : PyData} (r : RD K H v d) (e : Ext ρ T H H') (l : Live ρ H) : RD K H' v d := r.keep (e.tup l)
theorem RDs.ext {vs : List V} {ds : List PyData} (r : RDs K H vs ds) (e : Ext ρ T H H') (l : Live ρ H) : RDs K H' vs ds := r.keep (e.tup l)
theorem RF.keep {kvs : List (Key × V)} {f : Int → Option PyData} (r : RF K H kvs f) (k : ∀ a vs, SqT K H a vs → SqT K H' a vs) : RF K H' kvs f := fun n => by
  have h := r n
  revert h
  cases valV kvs (Sum.inl n) <;> cases f n <;> intro h
  · exact h
  · exact h
  · exact h
  · exact RD.keep k _ _ h
theorem SqS.ext {a : Addr} {xs : List V} (h : SqS ρ K H a xs) (e : Ext ρ T H H') : SqS ρ K H' a xs := by
  rcases h with ⟨h | ⟨o, h⟩, n⟩ | h
  · exact .inl ⟨.inl (e.st a _ h n fun _ z => nomatch z), n⟩
  · exact .inl ⟨.inr ⟨o, e.st a _ h n fun _ z => nomatch z⟩, n⟩
  · exact .inr h
theorem RV.ext {x : Val} (r : RV ρ K Hs H v x) (e : Ext ρ T H H') (l : Live ρ H) : RV ρ K Hs H' v x := by
  cases x with
  | d x => exact RD.ext r e l
  | l xs =>
    obtain ⟨a, vs, h1, h2, h3, h4⟩ := r
    exact ⟨a, vs, h1, h2, e.st a _ h3 h2 (fun _ z => nomatch z), h4.ext e l⟩
  | o xs =>
    obtain ⟨a, vs, h1, h2, h0, h3, h4⟩ := r
    exact ⟨a, vs, h1, h2, h0, e.st a _ h3 h2 (fun _ z => nomatch z), h4.ext e l⟩
  | rng => exact r
  | dk f =>
    obtain ⟨a, vs, h1, h2, h3, h4⟩ := r
    exact ⟨a, vs, h1, h2, e.st a _ h3 h2 (fun _ z => nomatch z), h4.keep (e.tup l)⟩
  | dn n f =>
    obtain ⟨a, vs, h1, h2, h0, h3, h4, h5⟩ := r
    exact ⟨a, vs, h1, h2, h0, e.st a _ h3 h2 (fun _ z => nomatch z), h4.keep (e.tup l), h5⟩
  | s ns =>
    obtain ⟨a, h1, h2⟩ := r
    exact ⟨a, h1, h2.ext e⟩
  | ty n => exact r
theorem RV.back {x : Val} (r : RV ρ K H1 H v x) (b : ∀ a, Fr H1 a → Fr Hs a) : RV ρ K Hs H v x := by
  cases x with
  | o xs =>
    obtain ⟨a, vs, h1, h2, h0, h3, h4⟩ := r
    exact ⟨a, vs, h1, h2, b a h0, h3, h4⟩
  | dn n f =>
    obtain ⟨a, vs, h1, h2, h0, h3, h4, h5⟩ := r
    exact ⟨a, vs, h1, h2, b a h0, h3, h4, h5⟩
  | d x => exact r
  | l xs => exact r
  | rng => exact r
  | dk f => exact r
  | s ns => exact r
  | ty n => exact r
/-- read by a name: what was one's own is now another's too -/
theorem RV.rd {x : Val} (r : RV ρ K Hs H v x) (Hz : Hp) : RV ρ K Hz H v x.rd := by
  cases x with
  | o xs =>
    obtain ⟨a, vs, h1, h2, h0, h3, h4⟩ := r
    exact ⟨a, vs, h1, h2, h3, h4⟩
  | dn n f =>
    obtain ⟨a, vs, h1, h2, h0, h3, h4, h5⟩ := r
    exact ⟨a, vs, h1, h2, h3, h4⟩
  | d x => exact r
  | l xs => exact r
  | rng => exact r
  | dk f => exact r
  | s ns => exact r
  | ty n => exact r
end
def Val.mut : Val → Prop
  | .o _ => True
  | .dn _ _ => True
  | _ => False
/-- a list or a dict -/
def Val.lk : Val → Prop
  | .o _ => True
  | .dn _ _ => True
  | .l _ => True
  | .dk _ => True
  | _ => False
theorem Val.mut.to {x : Val} (h : x.mut) : x.lk := by
  cases x <;> first | exact h | exact h.elim
/-- the script stood at the entry -/
def Old (ρ : Option Addr) (K : PySem.W.Frag) (H0 : Hp) (v : V) : Val → Prop
  | .s ns => ∀ a, v = .ref a → SqS ρ K H0 a (ns.map V.int)
  | _ => True
/-- the names' values: H0 the heap at the entry -/
structure ER (ρ : Option Addr) (K : PySem.W.Frag) (T : Tb) (H0 H : Hp) (σ : L2.St) (e : Sl) : Prop where
  len : σ.length = e.length
  sl : ∀ (i : Nat) x, e[i]? = some (some x) → ∃ v, σ[i]? = some (some v) ∧ RV ρ K H0 H v x ∧ Old ρ K H0 v x
  ap : ∀ (i j : Nat) x y v, i ≠ j → e[i]? = some (some x) → e[j]? = some (some y) → x.mut → y.lk → σ[i]? = some (some v) → σ[j]? = some (some v) → False
  ext : Ext ρ T H0 H
  live : Live ρ H
  tab : Tabs T H
section
variable {ρ : Option Addr} {T : Tb} {K : PySem.W.Frag} {H0 H H1 H' : Hp} {σ : L2.St} {e : Sl} {v : V} {x : Val}
theorem ER.to (r : ER ρ K T H0 H σ e) (k : Ext ρ T H H') : ER ρ K T H0 H' σ e where
  len := r.len
  sl := fun i x h => by
    obtain ⟨v, a, b, c⟩ := r.sl i x h
    exact ⟨v, a, b.ext k r.live, c⟩
  ap := r.ap
  ext := r.ext.trans k
  live := k.live r.live
  tab := k.tb r.tab
theorem lk_addr (m : x.lk) (r : RV ρ K H0 H v x) : ∃ a o, v = .ref a ∧ H a = some o ∧ ∀ ps, o ≠ .tbl ps := by
  cases x with
  | o xs =>
    obtain ⟨a, vs, h1, h2, h0, h3, h4⟩ := r
    exact ⟨a, _, h1, h3, fun _ z => nomatch z⟩
  | dn n f =>
    obtain ⟨a, vs, h1, h2, h0, h3, h4⟩ := r
    exact ⟨a, _, h1, h3, fun _ z => nomatch z⟩
  | l xs =>
    obtain ⟨a, vs, h1, h2, h3, h4⟩ := r
    exact ⟨a, _, h1, h3, fun _ z => nomatch z⟩
  | dk f =>
    obtain ⟨a, vs, h1, h2, h3, h4⟩ := r
    exact ⟨a, _, h1, h3, fun _ z => nomatch z⟩
  | _ => exact m.elim
theorem fresh_addr (ho : x.own) (m : x.lk) (r : RV ρ K H H' v x) : ∃ a, v = .ref a ∧ Fr H a := by
  cases x with
  | o xs =>
    obtain ⟨a, vs, h1, h2, h0, h3, h4⟩ := r
    exact ⟨a, h1, h0⟩
  | dn n f =>
    obtain ⟨a, vs, h1, h2, h0, h3, h4, h5⟩ := r
    exact ⟨a, h1, h0⟩
  | l xs => exact ho.elim
  | dk f => exact ho.elim
  | _ => exact m.elim
theorem fz_lk : x.fz.lk → x.lk := by cases x <;> exact fun h => h
/-- a value new since H is stored, y: as it is, or never changed any more -/
theorem ER.set {y : Val} (r : ER ρ K T H0 H σ e) (k : Ext ρ T H H') (hv : RV ρ K H H' v x) (ho : x.own) (hy : y = x ∨ y = x.fz) (i : Nat) : ER ρ K T H0 H' (σ.set i (some v)) (e.set i (some y)) where
  len := by rw [List.length_set, List.length_set]; exact r.len
  sl := fun j z h => by
    by_cases hj : i = j
    · subst hj
      have hi : i < e.length := by
        have := (List.getElem?_eq_some_iff.mp h).1
        rwa [List.length_set] at this
      rw [List.getElem?_set_self hi] at h
      cases h
      have hb : RV ρ K H0 H' v x := hv.back r.ext.fr
      refine ⟨v, by rw [List.getElem?_set_self (by rw [r.len]; exact hi)], ?_, ?_⟩
      · rcases hy with rfl | rfl
        · exact hb
        · have h2 := hb.rd H0
          cases x <;> exact h2
      · rcases hy with rfl | rfl
        · cases y <;> first | trivial | exact ho.elim
        · cases x <;> first | trivial | exact ho.elim
    · rw [List.getElem?_set_ne hj] at h ⊢
      exact (r.to k).sl j z h
  ap := fun j l a b w n h1 h2 m1 m2 s1 s2 => by
    have ylk : y.lk → x.lk := fun h => by
      rcases hy with rfl | rfl
      · exact h
      · exact fz_lk h
    have old : ∀ (q : Nat) u w, e[q]? = some (some u) → u.lk → σ[q]? = some (some w) → y.lk → v = w → False := fun q u w hq hm hs hxm hvw => by
      obtain ⟨w', a1, a2, _⟩ := r.sl q u hq
      rw [hs] at a1
      cases a1
      obtain ⟨a, o, ea, hao, hnt⟩ := lk_addr hm a2
      obtain ⟨b, eb, hb0⟩ := fresh_addr ho (ylk hxm) hv
      rw [hvw, ea] at eb
      cases eb
      exact hb0.no hao hnt
    have bound : ∀ {q : Nat} {u : Val}, (e.set i (some y))[q]? = some (some u) → q < e.length := fun h => by
      have := (List.getElem?_eq_some_iff.mp h).1
      rwa [List.length_set] at this
    by_cases hj : i = j
    · subst hj
      have hi := bound h1
      rw [List.getElem?_set_self hi] at h1
      cases h1
      rw [List.getElem?_set_self (by rw [r.len]; exact hi)] at s1
      cases s1
      rw [List.getElem?_set_ne n] at h2 s2
      exact old l b v h2 m2 s2 m1.to rfl
    · rw [List.getElem?_set_ne hj] at h1 s1
      by_cases hl : i = l
      · subst hl
        have hi := bound h2
        rw [List.getElem?_set_self hi] at h2
        cases h2
        rw [List.getElem?_set_self (by rw [r.len]; exact hi)] at s2
        cases s2
        exact old j a v h1 m1.to s1 m2 rfl
      · rw [List.getElem?_set_ne hl] at h2 s2
        exact r.ap j l a b w n h1 h2 m1 m2 s1 s2
  ext := r.ext.trans k
  live := k.live r.live
  tab := k.tb r.tab
theorem Tabs.upd_mut {H : Hp} {p : Addr} {o u : HO} (t : Tabs T H) (h : H p = some o) (n1 : ∀ ps, o ≠ .tbl ps) (n2 : ∀ φ, o ≠ .ext φ) : Tabs T (upd H p u) := fun q hq => by
  obtain ⟨ps, h1, h2, h3⟩ := t q hq
  refine ⟨ps, ?_, h2, fun pos cv hc => ?_⟩
  · rw [upd_ne (ne_of h1 h fun z => n1 ps z.symm)]
    exact h1
  · obtain ⟨c, e1, e2⟩ := h3 pos cv hc
    refine ⟨c, e1, ?_⟩
    rw [upd_ne (ne_of e2 h fun z => by unfold LamX.CodeO at z; exact n2 _ z.symm)]
    exact e2
/-- the object of one's own in slot i is changed -/
theorem ER.mutate {i : Nat} {p : Addr} {o u : HO} {y : Val} (r : ER ρ K T H0 H σ e) (hi : e[i]? = some (some x)) (hm : x.mut) (hs : σ[i]? = some (some (.ref p))) (hp : H p = some o) (ho : (∃ vs, o = .lst vs) ∨ ∃ kvs, o = .dK kvs)
    (hy : ∀ (k : ∀ a vs, SqT K H a vs → SqT K (upd H p u) a vs), some p ≠ ρ → Fr H0 p → RV ρ K H0 (upd H p u) (.ref p) y) (my : y.mut) : ER ρ K T H0 (upd H p u) σ (e.set i (some y)) := by
  have tk : ∀ a vs, SqT K H a vs → SqT K (upd H p u) a vs := fun a vs h => by
    rcases h with (h | ⟨ob, h⟩) | h
    · refine .inl (.inl ?_)
      rw [upd_ne (ne_of h hp fun z => by rcases ho with ⟨_, e⟩ | ⟨_, e⟩ <;> (rw [e] at z; cases z))]
      exact h
    · refine .inl (.inr ⟨ob, ?_⟩)
      rw [upd_ne (ne_of h hp fun z => by rcases ho with ⟨_, e⟩ | ⟨_, e⟩ <;> (rw [e] at z; cases z))]
      exact h
    · exact .inr h
  obtain ⟨v0, a0, a1, a2⟩ := r.sl i x hi
  rw [hs] at a0
  cases a0
  have pρ : some p ≠ ρ ∧ Fr H0 p := by
    cases x with
    | o xs =>
      obtain ⟨a, vs, h1, h2, h0, h3, h4⟩ := a1
      cases h1
      exact ⟨h2, h0⟩
    | dn n f =>
      obtain ⟨a, vs, h1, h2, h0, h3, h4, h5⟩ := a1
      cases h1
      exact ⟨h2, h0⟩
    | _ => exact hm.elim
  have ie : i < e.length := (List.getElem?_eq_some_iff.mp hi).1
  have ne0 : ∀ a o, H0 a = some o → (∀ ps, o ≠ .tbl ps) → a ≠ p := fun a o h m z => pρ.2.no (by rw [← z]; exact h) m
  have ex : Ext ρ T H0 (upd H p u) := by
    refine ⟨fun a q h n m => ?_, fun a ha hr => ?_, fun t => ?_, fun a h => ?_⟩
    · rw [upd_ne (ne0 a q h m)]
      exact r.ext.st a q h n m
    · obtain ⟨x1, y1, z1, q⟩ := r.ext.rg a ha hr
      refine ⟨x1, y1, z1, ?_⟩
      rw [upd_ne fun z => pρ.1 (by rw [ha, z])]
      exact q
    · refine Tabs.upd_mut (r.ext.tb t) hp (fun ps z => ?_) fun φ z => ?_
      · rcases ho with ⟨_, e⟩ | ⟨_, e⟩ <;> (rw [e] at z; cases z)
      · rcases ho with ⟨_, e⟩ | ⟨_, e⟩ <;> (rw [e] at z; cases z)
    · by_cases ha : a = p
      · rw [ha]
        exact pρ.2
      · exact r.ext.fr a fun o e => h o (by rw [upd_ne ha]; exact e)
  refine ⟨by rw [List.length_set]; exact r.len, fun j z h => ?_, fun j l a b w n h1 h2 m1 m2 s1 s2 => ?_, ?_, fun a h => ?_, ?_⟩
  · by_cases hj : i = j
    · subst hj
      rw [List.getElem?_set_self ie] at h
      cases h
      refine ⟨.ref p, hs, hy tk pρ.1 pρ.2, ?_⟩
      cases y with
      | s ns => exact my.elim
      | _ => trivial
    · rw [List.getElem?_set_ne hj] at h
      obtain ⟨w, b0, b1, b2⟩ := r.sl j z h
      refine ⟨w, b0, ?_, b2⟩
      cases z with
      | d q => exact RD.keep tk _ _ b1
      | l xs =>
        obtain ⟨a, vs, h1, h2, h3, h4⟩ := b1
        refine ⟨a, vs, h1, h2, ?_, h4.keep tk⟩
        rw [upd_ne fun z => r.ap i j x (.l xs) w hj hi h hm trivial (by rw [hs, h1, z]) b0]
        exact h3
      | o xs =>
        obtain ⟨a, vs, h1, h2, h0, h3, h4⟩ := b1
        refine ⟨a, vs, h1, h2, h0, ?_, h4.keep tk⟩
        rw [upd_ne fun z => r.ap i j x (.o xs) w hj hi h hm trivial (by rw [hs, h1, z]) b0]
        exact h3
      | rng => exact b1
      | dk f =>
        obtain ⟨a, vs, h1, h2, h3, h4⟩ := b1
        refine ⟨a, vs, h1, h2, ?_, h4.keep tk⟩
        rw [upd_ne fun z => r.ap i j x (.dk f) w hj hi h hm trivial (by rw [hs, h1, z]) b0]
        exact h3
      | dn n f =>
        obtain ⟨a, vs, h1, h2, h0, h3, h4, h5⟩ := b1
        refine ⟨a, vs, h1, h2, h0, ?_, h4.keep tk, h5⟩
        rw [upd_ne fun z => r.ap i j x (.dn n f) w hj hi h hm trivial (by rw [hs, h1, z]) b0]
        exact h3
      | s ns =>
        obtain ⟨a, h1, h2⟩ := b1
        exact ⟨a, h1, (b2 a h1).ext ex⟩
      | ty n => exact b1
  · have ex : ∀ (q : Nat) c, (e.set i (some y))[q]? = some (some c) → ∃ c', e[q]? = some (some c') ∧ (c.mut → c'.mut) ∧ (c.lk → c'.lk) := fun q c hq => by
      by_cases hq2 : i = q
      · subst hq2
        exact ⟨x, hi, fun _ => hm, fun _ => hm.to⟩
      · rw [List.getElem?_set_ne hq2] at hq
        exact ⟨c, hq, id, id⟩
    obtain ⟨a', c1, c2, c3⟩ := ex j a h1
    obtain ⟨b', d1, d2, d3⟩ := ex l b h2
    exact r.ap j l a' b' w n c1 d1 (c2 m1) (d3 m2) s1 s2
  · exact ex
  · obtain ⟨x1, y1, z1, q⟩ := r.live a h
    refine ⟨x1, y1, z1, ?_⟩
    rw [upd_ne fun z => pρ.1 (by rw [h, z])]
    exact q
  · refine Tabs.upd_mut r.tab hp (fun ps z => ?_) fun φ z => ?_
    · rcases ho with ⟨_, e⟩ | ⟨_, e⟩ <;> (rw [e] at z; cases z)
    · rcases ho with ⟨_, e⟩ | ⟨_, e⟩ <;> (rw [e] at z; cases z)
end
end Bx
/-! Bx3: the rules for expressions, over data -/
namespace Bx
open PySem PySem.Spec PyProof.Rows L2
open LamX (Tabs)
/-! ### lifts -/
abbrev RVs (ρ : Option Addr) (K : PySem.W.Frag) (Hs H : Hp) : List V → List Val → Prop := Paired fun v x => RV ρ K Hs H v x
def liE (ρ : Option Addr) (K : PySem.W.Frag) (T : Tb) (H0 : Hp) (d : DE) : TE := fun σ H Q => ∃ e P, ER ρ K T H0 H σ e ∧ d e P ∧ ∀ v H' x, P x → Ext ρ T H H' → RV ρ K H H' v x → Q v H'
def liT (ρ : Option Addr) (K : PySem.W.Frag) (T : Tb) (H0 : Hp) (d : DT) : TT := fun σ H Q => ∃ e P, ER ρ K T H0 H σ e ∧ d e P ∧ ∀ b H', P b → Ext ρ T H H' → Q b H'
def liA (n : Nat) (ρ : Option Addr) (K : PySem.W.Frag) (T : Tb) (H0 : Hp) (d : DA) : TA := fun σ H Q => ∃ e P, ER ρ K T H0 H σ e ∧ d e P ∧ ∀ vs H' xs, P xs → Ext ρ T H H' → RVs ρ K H H' vs xs → vs.length = n → Q vs H'
def liO (ρ : Option Addr) (K : PySem.W.Frag) (T : Tb) (H0 : Hp) (d : DO) : TO := fun σ H Q => ∃ e P, ER ρ K T H0 H σ e ∧ d e P ∧ ∀ o H', P o → Ext ρ T H H' → Q o H'
section
variable {X : Cx}
theorem PEw {e : Expr} {t t' : TE} (h : PE X e t) (w : ∀ σ H Q, t' σ H Q → t σ H Q) : PE X e t' := ⟨fun pins s σ H Q I q => h.run pins s σ H Q I (w σ H Q q)⟩
theorem PTw {e : Expr} {t t' : TT} (h : PT X e t) (w : ∀ σ H Q, t' σ H Q → t σ H Q) : PT X e t' := ⟨fun pins s σ H Q I q => h.run pins s σ H Q I (w σ H Q q)⟩
theorem PWw {e : Expr} {t t' : TT} (h : PW X e t) (w : ∀ σ H Q, t' σ H Q → t σ H Q) : PW X e t' := ⟨fun wh pins s σ H Q I q => h.run wh pins s σ H Q I (w σ H Q q)⟩
theorem PTsw {es : List Expr} {t t' : TT} (h : PTs X es t) (w : ∀ σ H Q, t' σ H Q → t σ H Q) : PTs X es t' := ⟨fun pins s σ H Q I q => h.run pins s σ H Q I (w σ H Q q)⟩
theorem PAw {es : List Expr} {t t' : TA} (h : PA X es t) (w : ∀ σ H Q, t' σ H Q → t σ H Q) : PA X es t' := ⟨fun pos pins s σ H Q I q => h.run pos pins s σ H Q I (w σ H Q q)⟩
theorem POw {o : Option Expr} {t t' : TO} (h : PO X o t) (w : ∀ σ H Q, t' σ H Q → t σ H Q) : PO X o t' := ⟨fun pins s σ H Q I q => h.run pins s σ H Q I (w σ H Q q)⟩
theorem PSw {st : Stmt} {t t' : TS} (h : PS X st t) (w : ∀ D σ H, t' D σ H → t D σ H) : PS X st t' := ⟨fun pins s σ H D I q => h.run pins s σ H D I (w D σ H q)⟩
theorem PSsw {st : List Stmt} {t t' : TS} (h : PSs X st t) (w : ∀ D σ H, t' D σ H → t D σ H) : PSs X st t' := ⟨fun pins s σ H D I q => h.run pins s σ H D I (w D σ H q)⟩
end
section
variable {ρ : Option Addr} {K : PySem.W.Frag} {T : Tb} {H0 Hs H H' : Hp} {σ : L2.St} {e : Sl}
theorem RVs.ext {vs : List V} {xs : List Val} (r : RVs ρ K Hs H vs xs) (k : Ext ρ T H H') (l : Live ρ H) : RVs ρ K Hs H' vs xs := Paired.mapP r fun _ _ q => q.ext k l
theorem RVs.back {vs : List V} {xs : List Val} {H1 : Hp} (r : RVs ρ K H1 H vs xs) (b : ∀ a, Fr H1 a → Fr Hs a) : RVs ρ K Hs H vs xs := Paired.mapP r fun _ _ q => q.back b
theorem RVs.ds : ∀ {vs : List V} {ds : List PyData}, RVs ρ K Hs H vs (ds.map Val.d) → RDs K H vs ds
  | [], [], _ => .nil
  | [], _ :: _, h => by cases h
  | _ :: _, [], h => by cases h
  | v :: vs, d :: ds, h => by
    have h' : RVs ρ K Hs H (v :: vs) (Val.d d :: ds.map Val.d) := h
    cases h' with
    | cons h1 h2 => exact .cons h1 (RVs.ds h2)
theorem RVs.rd {vs : List V} {xs : List Val} (r : RVs ρ K Hs H vs xs) (Hz : Hp) : RVs ρ K Hz H vs (xs.map Val.rd) := by
  induction r with
  | nil => exact .nil
  | cons h t ih => exact .cons (h.rd Hz) ih
theorem rv_int {v : V} {i : Int} (r : RV ρ K Hs H v (.d (.int i))) : v = .int i := by
  have r' : RD K H v (.int i) := r
  cases r'
  rfl
theorem rv_bl {v : V} {b : Bool} (r : RV ρ K Hs H v (.d (.bool b))) : v = .bl b := by
  have r' : RD K H v (.bool b) := r
  cases r'
  rfl
theorem rv_non {v : V} (r : RV ρ K Hs H v (.d .none)) : v = .non := by
  have r' : RD K H v .none := r
  cases r'
  rfl
theorem rv_tup {v : V} {ds : List PyData} (r : RV ρ K Hs H v (.d (.tuple ds))) : ∃ a vs, v = .ref a ∧ SqT K H a vs ∧ RDs K H vs ds := by
  have r' : RD K H v (.tuple ds) := r
  cases r' with
  | tup h1 h2 => exact ⟨_, _, rfl, h1, h2⟩
theorem rv_lst {v : V} {x : Val} {ds : List PyData} (r : RV ρ K Hs H v x) (hx : x.lst = some ds) : ∃ a vs, v = .ref a ∧ some a ≠ ρ ∧ H a = some (.lst vs) ∧ RDs K H vs ds := by
  cases x with
  | l xs =>
    cases hx
    exact r
  | o xs =>
    cases hx
    obtain ⟨a, vs, h1, h2, h0, h3, h4⟩ := r
    exact ⟨a, vs, h1, h2, h3, h4⟩
  | _ => cases hx
theorem rv_seq {v : V} {x : Val} {ds : List PyData} (r : RV ρ K Hs H v x) (hx : x.seq = some ds) : ∃ a vs, v = .ref a ∧ (SqL K H a vs ∨ SqT K H a vs) ∧ RDs K H vs ds := by
  cases x with
  | l xs =>
    cases hx
    obtain ⟨a, vs, h1, h2, h3, h4⟩ := r
    exact ⟨a, vs, h1, .inl (SqL.of h3), h4⟩
  | o xs =>
    cases hx
    obtain ⟨a, vs, h1, h2, h0, h3, h4⟩ := r
    exact ⟨a, vs, h1, .inl (SqL.of h3), h4⟩
  | d d =>
    cases d with
    | tuple xs =>
      cases hx
      obtain ⟨a, vs, h1, h2, h3⟩ := rv_tup r
      exact ⟨a, vs, h1, .inr h2, h3⟩
    | _ => cases hx
  | s ns =>
    cases hx
    obtain ⟨a, h1, h2⟩ := r
    exact ⟨a, _, h1, .inl h2.sq, RDs.ofInts ns⟩
  | _ => cases hx
theorem rv_dic {v : V} {x : Val} {f : Int → Option PyData} (r : RV ρ K Hs H v x) (hx : x.dic = some f) : ∃ a kvs, v = .ref a ∧ some a ≠ ρ ∧ H a = some (.dK kvs) ∧ RF K H kvs f := by
  cases x with
  | dk xs =>
    cases hx
    exact r
  | dn n xs =>
    cases hx
    obtain ⟨a, vs, h1, h2, h0, h3, h4, h5⟩ := r
    exact ⟨a, vs, h1, h2, h3, h4⟩
  | _ => cases hx
theorem rv_py {v : V} {x : Val} {d : PyData} (r : RV ρ K Hs H v x) (hx : x.py = some d) : Dp K H v d ∧ d.canLay0 = true := by
  cases x with
  | d d =>
    cases hx
    exact ⟨RD.dp _ _ r, RD.lay _ _ r⟩
  | l xs =>
    cases hx
    obtain ⟨a, vs, rfl, h2, h3, h4⟩ := r
    exact ⟨.lst (SqL.of h3) (RDs.dp _ _ h4), by simp only [PyData.canLay0]; exact RDs.lay _ _ h4⟩
  | o xs =>
    cases hx
    obtain ⟨a, vs, rfl, h2, h0, h3, h4⟩ := r
    exact ⟨.lst (SqL.of h3) (RDs.dp _ _ h4), by simp only [PyData.canLay0]; exact RDs.lay _ _ h4⟩
  | _ => cases hx
end

/-! ### names, constants -/
section
variable {X : Cx} {ρ : Option Addr} {T : Tb} {H0 : Hp} {a b c : Expr} {es : List Expr} {pos : Pos} {da db dc : DE} {n : Nat}
theorem pd_var {x : Expr} {i : Nat} (h : PE X x (tVar i)) : PE X x (liE ρ X.K T H0 (dVar i)) := PEw h fun σ H Q ⟨e, P, r, ⟨x, hx, p⟩, k⟩ => by
  obtain ⟨v, h1, h2, _⟩ := r.sl i x hx
  exact ⟨v, h1, k v H x.rd p .refl (h2.rd H)⟩
theorem pd_c {x : Expr} {v : V} {d : PyData} (h : PE X x (tC v)) (hd : ∀ H, RD X.K H v d) : PE X x (liE ρ X.K T H0 (dC d)) := PEw h fun σ H Q ⟨e, P, r, p, k⟩ => k v H (.d d) p .refl (hd H)
theorem pd_int {i : Int} {j pos} : PE X (.Constant (.int i) j pos) (liE ρ X.K T H0 (dC (.int i))) := pd_c pe_int fun _ => .int i
theorem pd_bl {i : Bool} {j pos} : PE X (.Constant (.bool i) j pos) (liE ρ X.K T H0 (dC (.bool i))) := pd_c pe_bl fun _ => .bl i
theorem pd_non {j pos} : PE X (.Constant .none j pos) (liE ρ X.K T H0 (dC .none)) := pd_c pe_non fun _ => .non
theorem pd_str {z : Str} {j pos} (h : PyData.canLay0 (.str z) = true) : PE X (.Constant (.str z) j pos) (liE ρ X.K T H0 (dC (.str z))) := pd_c pe_str fun _ => .str z h
/-- a module's tuple -/
theorem pd_glob {x : Str} {u : Addr} {vs : List V} {ds : List PyData} (hg : Gl X x) (hm : X.mg x = some (.ref u)) (hT : ∀ H, SqT X.K H u vs) (hd : ∀ H, RDs X.K H vs ds) (hdb : (x == ("__debug__" : Str)) = false := by decide) : PE X (.Name x pos) (liE ρ X.K T H0 (dC (.tuple ds))) :=
  pd_c (pe_glob (v := .ref u) hg hm rfl hdb) fun H => .tup (hT H) (hd H)
theorem pd_ty {x : Str} {nm : String} (hg : Gl X x) (hm : X.mg x = none) (hv : bootBuiltins x = some (.type nm)) (hn : x ≠ "__name__" := by decide) (hd : (x == ("__debug__" : Str)) = false := by decide) : PE X (.Name x pos) (liE ρ X.K T H0 (dTy nm)) :=
  PEw (pe_bltn (v := .ty nm) hg hm hv rfl hn hd) fun σ H Q ⟨e, P, r, p, k⟩ => k (.ty nm) H (.ty nm) p .refl rfl

/-! ### arguments, displays -/
theorem pda_nil : PA X [] (liA 0 ρ X.K T H0 dNil) := PAw pa_nil fun σ H Q ⟨e, P, r, p, k⟩ => k [] H [] p .refl .nil rfl
theorem pda_cons {dr : DA} (ha : PE X a (liE ρ X.K T H0 da)) (hr : PA X es (liA n ρ X.K T H0 dr)) (hs : starEach (a :: es) X.env = (false, eval a X.env) :: starEach es X.env := by rfl) : PA X (a :: es) (liA (n + 1) ρ X.K T H0 (dCons da dr)) :=
  PAw (pa_cons ha hr hs) fun σ H Q ⟨e, P, r, p, k⟩ => ⟨e, _, r, p, fun v H1 x hx e1 r1 => ⟨e, _, r.to e1, hx, fun vs H2 xs hxs e2 r2 hl =>
    k (v :: vs) H2 (x :: xs) hxs (e1.trans e2) (.cons (r1.ext e2 (e1.live r.live)) (r2.back e1.fr)) (by rw [List.length_cons, hl])⟩⟩
theorem pd_tup {x1} {d : DA} (h : PA X es (liA n ρ X.K T H0 d)) (hn : n ≤ 1000 := by decide) : PE X (.Tuple es x1 pos) (liE ρ X.K T H0 (dTup d)) :=
  PEw (pe_tup h) fun σ H Q ⟨e, P, r, p, k⟩ => ⟨e, _, r, p, fun vs H1 xs ⟨ds, ex, px⟩ e1 r1 hl => by
    subst ex
    refine ⟨Nat.le_of_lt (small1000 (by rw [hl]; exact hn)), fun q hq => ?_⟩
    have e2 : Ext ρ T H1 (upd H1 q (.tup vs)) := .new hq
    exact k _ _ _ px (e1.trans e2) (RD.tup (.inl (.inl upd_same)) ((RVs.ds r1).ext e2 (e1.live r.live)))⟩
theorem pd_lst {d : DA} (h : PA X es (liA n ρ X.K T H0 d)) (hn : n ≤ 1000 := by decide) : PE X (.List es pos) (liE ρ X.K T H0 (dLst d)) :=
  PEw (pe_lst h) fun σ H Q ⟨e, P, r, p, k⟩ => ⟨e, _, r, p, fun vs H1 xs ⟨ds, ex, px⟩ e1 r1 hl => by
    subst ex
    refine ⟨Nat.le_of_lt (small1000 (by rw [hl]; exact hn)), fun q hq => ?_⟩
    have e2 : Ext ρ T H1 (upd H1 q (.lst vs)) := .new hq
    have nq : some q ≠ ρ := fun z => by
      obtain ⟨_, _, _, w⟩ := (e1.live r.live) q z.symm
      rw [hq] at w
      cases w
    exact k _ _ _ px (e1.trans e2) ⟨q, vs, rfl, nq, e1.fr q (.of hq), upd_same, (RVs.ds r1).ext e2 (e1.live r.live)⟩⟩
theorem pd_newD : PE X (.Dict [] [] pos) (liE ρ X.K T H0 dNewD) := PEw pe_dnewK fun σ H Q ⟨e, P, r, p, k⟩ => fun q hq => by
  have nq : some q ≠ ρ := fun z => by
    obtain ⟨_, _, _, w⟩ := r.live q z.symm
    rw [hq] at w
    cases w
  exact k _ _ _ p (.new hq) ⟨q, [], rfl, nq, .of hq, upd_same, fun n => trivial, Nat.zero_le _⟩

/-! ### operations by values -/
/-- what is asked of a rule by values -/
def SO (ρ : Option Addr) (K : PySem.W.Frag) (T : Tb) (r : DR) (r' : R2) : Prop := ∀ (Hs H : Hp) (v w : V) (x y : Val) (P : Val → Prop) (Q : VK), Live ρ H → RV ρ K Hs H v x → RV ρ K Hs H w y → r x y P →
  (∀ z H' u, P u → Ext ρ T H H' → RV ρ K H H' z u → Q z H') → r' v w H Q
theorem so_op {r : DR} {r' : R2} (hs : SO ρ X.K T r r') {σ H Q} (h : liE ρ X.K T H0 (dOp r da db) σ H Q) : tOp r' (liE ρ X.K T H0 da) (liE ρ X.K T H0 db) σ H Q := by
  obtain ⟨e, P, q, p, k⟩ := h
  exact ⟨e, _, q, p, fun v H1 x hx e1 r1 => ⟨e, _, q.to e1, hx, fun w H2 y hy e2 r2 =>
    hs H H2 v w x y P Q (e2.live (e1.live q.live)) (r1.ext e2 (e1.live q.live)) (r2.back e1.fr) hy fun z H3 u hu e3 r3 => k z H3 u hu ((e1.trans e2).trans e3) (r3.back (e1.trans e2).fr)⟩⟩
theorem pd_op {op : Operator} {r : DR} {r' : R2} (ho : OpR X (binaryOp op) r') (hs : SO ρ X.K T r r') (ha : PE X a (liE ρ X.K T H0 da)) (hb : PE X b (liE ρ X.K T H0 db)) : PE X (.BinOp a op b pos) (liE ρ X.K T H0 (dOp r da db)) :=
  PEw (pe_op ho ha hb) fun _ _ _ h => so_op hs h
theorem pd_cmp {op : CmpOp} {r : DR} {r' : R2} (ho : OpR X (compareOp op) r') (hs : SO ρ X.K T r r') (ha : PE X a (liE ρ X.K T H0 da)) (hb : PE X b (liE ρ X.K T H0 db)) (hm : behindInMarks op b = false) : PE X (.Compare a [op] [b] pos) (liE ρ X.K T H0 (dOp r da db)) :=
  PEw (pe_cmpR ho ha hb hm) fun _ _ _ h => so_op hs h
theorem ptd_cmp {op : CmpOp} {r : DR} {r' : R2} (ho : OpR X (compareOp op) r') (hs : SO ρ X.K T r r') (ha : PE X a (liE ρ X.K T H0 da)) (hb : PE X b (liE ρ X.K T H0 db)) (hm : behindInMarks op b = false) : PT X (.Compare a [op] [b] pos) (liT ρ X.K T H0 (dT (dOp r da db))) :=
  PTw (pt_cmpR ho ha hb hm) fun σ H Q ⟨e, P, q, p, k⟩ => so_op hs ⟨e, fun x => ∃ c, x = .d (.bool c) ∧ P c, q, p, fun v H1 x ⟨c, ex, pc⟩ e1 r1 => by
    subst ex
    exact ⟨c, rv_bl r1, k c H1 pc e1⟩⟩
theorem pd_ix {r : DR} {r' : R2} (ho : IxR X r') (hs : SO ρ X.K T r r') (ha : PE X a (liE ρ X.K T H0 da)) (hb : PE X b (liE ρ X.K T H0 db)) (hp : PlainIx b := by intro _ _; rfl) : PE X (.Subscript a b pos) (liE ρ X.K T H0 (dOp r da db)) :=
  PEw (pe_ix ho ha hb hp) fun _ _ _ h => so_op hs h
/-- two ints -/
theorem so_i {C : Int → Int → Prop} {g : Int → Int → PyData} {g' : Int → Int → V} (hg : ∀ K H i j, RD K H (g' i j) (g i j)) : SO ρ X.K T (rI2 C g) (rI C g') := fun Hs H v w x y P Q l r1 r2 ⟨i, j, ex, ey, hc, hp⟩ k => by
  subst ex ey
  exact ⟨i, j, rv_int r1, rv_int r2, hc, k _ H _ hp .refl (hg _ _ _ _)⟩
theorem so_i0 {g : Int → Int → PyData} {g' : Int → Int → V} (hg : ∀ K H i j, RD K H (g' i j) (g i j)) : SO ρ X.K T (rI2 (fun _ _ => True) g) (rI0 g') := fun Hs H v w x y P Q l r1 r2 ⟨i, j, ex, ey, hc, hp⟩ k => by
  subst ex ey
  exact ⟨i, j, rv_int r1, rv_int r2, k _ H _ hp .refl (hg _ _ _ _)⟩
abbrev C0 : Int → Int → Prop := fun _ _ => True
theorem pd_add (ha : PE X a (liE ρ X.K T H0 da)) (hb : PE X b (liE ρ X.K T H0 db)) : PE X (.BinOp a .Add b pos) (liE ρ X.K T H0 (dOp (rI2 C0 fun i j => .int (i + j)) da db)) := pd_op op_add (so_i0 fun _ _ _ _ => .int _) ha hb
theorem pd_sub (ha : PE X a (liE ρ X.K T H0 da)) (hb : PE X b (liE ρ X.K T H0 db)) : PE X (.BinOp a .Sub b pos) (liE ρ X.K T H0 (dOp (rI2 C0 fun i j => .int (i - j)) da db)) := pd_op op_sub (so_i0 fun _ _ _ _ => .int _) ha hb
theorem pd_mul (ha : PE X a (liE ρ X.K T H0 da)) (hb : PE X b (liE ρ X.K T H0 db)) : PE X (.BinOp a .Mult b pos) (liE ρ X.K T H0 (dOp (rI2 CMul fun i j => .int (i * j)) da db)) := pd_op op_mul (so_i fun _ _ _ _ => .int _) ha hb
theorem pd_mod (ha : PE X a (liE ρ X.K T H0 da)) (hb : PE X b (liE ρ X.K T H0 db)) : PE X (.BinOp a .Mod b pos) (liE ρ X.K T H0 (dOp (rI2 (fun _ j => j ≠ 0) fun i j => .int (i.fmod j)) da db)) := pd_op op_modN (so_i fun _ _ _ _ => .int _) ha hb
theorem pd_fdiv (ha : PE X a (liE ρ X.K T H0 da)) (hb : PE X b (liE ρ X.K T H0 db)) : PE X (.BinOp a .FloorDiv b pos) (liE ρ X.K T H0 (dOp (rI2 CDivN fun i j => .int (i.fdiv j)) da db)) := pd_op op_fdivN (so_i fun _ _ _ _ => .int _) ha hb
theorem pd_pow (ha : PE X a (liE ρ X.K T H0 da)) (hb : PE X b (liE ρ X.K T H0 db)) : PE X (.BinOp a .Pow b pos) (liE ρ X.K T H0 (dOp (rI2 CPow fun i j => .int (i ^ j.toNat)) da db)) := pd_op op_pow (so_i fun _ _ _ _ => .int _) ha hb
theorem pd_lt (ha : PE X a (liE ρ X.K T H0 da)) (hb : PE X b (liE ρ X.K T H0 db)) : PE X (.Compare a [.Lt] [b] pos) (liE ρ X.K T H0 (dOp (rI2 C0 fun i j => .bool (decide (i < j))) da db)) := pd_cmp op_lt (so_i0 fun _ _ _ _ => .bl _) ha hb (nomark _)
theorem pd_le (ha : PE X a (liE ρ X.K T H0 da)) (hb : PE X b (liE ρ X.K T H0 db)) : PE X (.Compare a [.LtE] [b] pos) (liE ρ X.K T H0 (dOp (rI2 C0 fun i j => .bool (decide (i ≤ j))) da db)) := pd_cmp op_le (so_i0 fun _ _ _ _ => .bl _) ha hb (nomark _)
theorem pd_gt (ha : PE X a (liE ρ X.K T H0 da)) (hb : PE X b (liE ρ X.K T H0 db)) : PE X (.Compare a [.Gt] [b] pos) (liE ρ X.K T H0 (dOp (rI2 C0 fun i j => .bool (decide (j < i))) da db)) := pd_cmp op_gt (so_i0 fun _ _ _ _ => .bl _) ha hb (nomark _)
theorem pd_ge (ha : PE X a (liE ρ X.K T H0 da)) (hb : PE X b (liE ρ X.K T H0 db)) : PE X (.Compare a [.GtE] [b] pos) (liE ρ X.K T H0 (dOp (rI2 C0 fun i j => .bool (decide (j ≤ i))) da db)) := pd_cmp op_ge (so_i0 fun _ _ _ _ => .bl _) ha hb (nomark _)
/-- x[i] of a list or tuple -/
theorem so_ix : SO ρ X.K T Bx.rIx (L2.rIx X.K) := fun Hs H v w x y P Q l r1 r2 ⟨xs, i, d, hx, ey, hd, hp⟩ k => by
  subst ey
  have ew := rv_int r2
  obtain ⟨a, vs, ev, hsq, hr⟩ := rv_seq r1 hx
  obtain ⟨j, h1, h2⟩ : ∃ j, ixN xs.length i = some j ∧ xs[j]? = some d := by
    unfold atI at hd
    cases q : ixN xs.length i with
    | none => rw [q] at hd; cases hd
    | some j => rw [q] at hd; exact ⟨j, rfl, hd⟩
  obtain ⟨u, hu, ru⟩ := hr.get h2
  have ha : atI vs i = some u := by
    unfold atI
    rw [hr.length, h1]
    exact hu
  rcases hsq with hsq | hsq
  · exact .inl ⟨a, vs, i, u, ev, ew, hsq, ha, k u H _ hp .refl ru⟩
  · exact .inr (.inl ⟨a, vs, i, u, ev, ew, hsq, ha, k u H _ hp .refl ru⟩)
theorem pd_at (ha : PE X a (liE ρ X.K T H0 da)) (hb : PE X b (liE ρ X.K T H0 db)) (hp : PlainIx b := by intro _ _; rfl) : PE X (.Subscript a b pos) (liE ρ X.K T H0 (dOp Bx.rIx da db)) := pd_ix ix_seq so_ix ha hb hp
/-- d[k] -/
theorem rf_some {K : PySem.W.Frag} {H : Hp} {kvs : List (Key × V)} {f : Int → Option PyData} (r : RF K H kvs f) {n : Int} {d : PyData} (h : f n = some d) : ∃ v, valV kvs (Sum.inl n) = some v ∧ RD K H v d := by
  have q := r n
  rw [h] at q
  cases z : valV kvs (Sum.inl n) with
  | none => rw [z] at q; exact q.elim
  | some v => rw [z] at q; exact ⟨v, rfl, q⟩
theorem rf_is {K : PySem.W.Frag} {H : Hp} {kvs : List (Key × V)} {f : Int → Option PyData} (r : RF K H kvs f) (n : Int) : (valV kvs (Sum.inl n)).isSome = (f n).isSome := by
  have q := r n
  revert q
  cases valV kvs (Sum.inl n) <;> cases f n <;> intro q <;> first | rfl | exact q.elim
theorem pd_atD (hu : X.A.units + 1 < cLine) (ha : PE X a (liE ρ X.K T H0 da)) (hb : PE X b (liE ρ X.K T H0 db)) (hp : NoSl b := by intro _ _; rfl) : PE X (.Subscript a b pos) (liE ρ X.K T H0 (dOp rIxD da db)) :=
  PEw (pe_dget hu ha hb hp) fun σ H Q ⟨e, P, q, p, k⟩ => ⟨e, _, q, p, fun v H1 x hx e1 r1 => ⟨e, _, q.to e1, hx, fun w H2 y hy e2 r2 => by
    obtain ⟨f, n, d, hf, ey, hd, hp⟩ := hy
    subst ey
    obtain ⟨a, kvs, ev, nρ, ha, hr⟩ := rv_dic (r1.ext e2 (e1.live q.live)) hf
    obtain ⟨u, hu, ru⟩ := rf_some hr hd
    refine ⟨a, u, ev, ?_, k u H2 _ hp (e1.trans e2) ru⟩
    rw [rv_int r2, ← hu]
    exact DGet.k (k := Sum.inl n) ha⟩⟩
theorem pd_inD (hu : X.A.units + 1 < cLine) (ha : PE X a (liE ρ X.K T H0 da)) (hb : PE X b (liE ρ X.K T H0 db)) (hm : behindInMarks .In b = false := by rfl) : PE X (.Compare a [.In] [b] pos) (liE ρ X.K T H0 (dOp rInD da db)) :=
  PEw (pe_cmp (pc_din hu ha hb) hm) fun σ H Q ⟨e, P, q, p, k⟩ => ⟨e, _, q, p, fun v H1 x hx e1 r1 => ⟨e, _, q.to e1, hx, fun w H2 y hy e2 r2 => by
    obtain ⟨n, f, ex, hf, hp⟩ := hy
    subst ex
    obtain ⟨a, kvs, ev, nρ, ha, hr⟩ := rv_dic r2 hf
    refine ⟨a, valV kvs (Sum.inl n), ev, ?_, k _ H2 _ hp (e1.trans e2) ?_⟩
    · rw [rv_int r1]
      exact DGet.k (k := Sum.inl n) ha
    · rw [rf_is hr n]
      exact RD.bl _⟩⟩
theorem so_cat : SO ρ X.K T Bx.rCat L2.rCat := fun Hs H v w x y P Q l r1 r2 ⟨xs, ys, hx, hy, hz, hp⟩ k => by
  obtain ⟨a, vs, ev, _, ha, hr⟩ := rv_lst r1 hx
  obtain ⟨b, ws, ew, _, hb, hr2⟩ := rv_lst r2 hy
  refine ⟨a, b, vs, ws, ev, ew, ha, hb, by rw [hr.length, hr2.length, sizeLine_eq]; omega, fun q hq => ?_⟩
  have e2 : Ext ρ T H (upd H q (.lst (vs ++ ws))) := .new hq
  have nq : some q ≠ ρ := fun z => by
    obtain ⟨_, _, _, w⟩ := l q z.symm
    rw [hq] at w
    cases w
  exact k _ _ _ hp e2 ⟨q, _, rfl, nq, .of hq, upd_same, (hr.append hr2).ext e2 l⟩
theorem pd_cat (ha : PE X a (liE ρ X.K T H0 da)) (hb : PE X b (liE ρ X.K T H0 db)) : PE X (.BinOp a .Add b pos) (liE ρ X.K T H0 (dOp Bx.rCat da db)) := pd_op op_cat so_cat ha hb
theorem so_catT : SO ρ X.K T Bx.rCatT (rCatA X.K) := fun Hs H v w x y P Q l r1 r2 ⟨xs, ys, ex, ey, hz, hp⟩ k => by
  subst ex ey
  obtain ⟨a, vs, ev, ha, hr⟩ := rv_tup r1
  obtain ⟨b, ws, ew, hb, hr2⟩ := rv_tup r2
  refine ⟨a, b, vs, ws, ev, ew, ha, hb, by rw [hr.length, hr2.length, sizeLine_eq]; omega, fun z => ?_, fun _ z => ?_, fun _ _ q hq => ?_⟩
  · have e0 : xs = [] := List.eq_nil_of_length_eq_zero (by rw [← hr.length, z]; rfl)
    subst e0
    exact k _ H _ hp .refl (RD.tup hb hr2)
  · have e0 : ys = [] := List.eq_nil_of_length_eq_zero (by rw [← hr2.length, z]; rfl)
    subst e0
    rw [List.append_nil] at hp
    exact k _ H _ hp .refl (RD.tup ha hr)
  · have e2 : Ext ρ T H (upd H q (.tup (vs ++ ws))) := .new hq
    exact k _ _ _ hp e2 (RD.tup (.inl (.inl upd_same)) ((hr.append hr2).ext e2 l))
theorem pd_catT (ha : PE X a (liE ρ X.K T H0 da)) (hb : PE X b (liE ρ X.K T H0 db)) : PE X (.BinOp a .Add b pos) (liE ρ X.K T H0 (dOp Bx.rCatT da db)) := pd_op op_catA so_catT ha hb

/-! ### == -/
def rEqY (K : PySem.W.Frag) (neg : Bool) : R2 := fun x y H Q => ∃ d e, Dp K H x d ∧ Dp K H y e ∧ d.canLay0 = true ∧ e.canLay0 = true ∧ (d.depth ≤ 60 ∨ e.depth ≤ 60) ∧ Q (.bl (if neg then !PyData.eqv d e else PyData.eqv d e)) H
theorem op_eqY (hu : X.A.units + 64 < cLine) : OpR X (compareOp .Eq) (rEqY X.K false) := by
  intro pins s σ H x y v u Q I rx ry h
  obtain ⟨d, e, hd, he, sd, se, hz, q⟩ := h
  obtain ⟨as, r1⟩ := Dp.reads I d x v hd rx
  obtain ⟨bs, r2⟩ := Dp.reads I e y u he ry
  exact SeqAt.compareEq_reads r1 r2 sd se (by have := Nat.min_le_left d.depth e.depth; have := Nat.min_le_right d.depth e.depth; omega) ⟨.bl _, H, I, rfl, q⟩
theorem op_neY (hu : X.A.units + 64 < cLine) : OpR X (compareOp .NotEq) (rEqY X.K true) := by
  intro pins s σ H x y v u Q I rx ry h
  obtain ⟨d, e, hd, he, sd, se, hz, q⟩ := h
  obtain ⟨as, r1⟩ := Dp.reads I d x v hd rx
  obtain ⟨bs, r2⟩ := Dp.reads I e y u he ry
  exact SeqAt.compareNe_reads r1 r2 sd se (by have := Nat.min_le_left d.depth e.depth; have := Nat.min_le_right d.depth e.depth; omega) ⟨.bl _, H, I, rfl, q⟩
theorem so_eq {neg : Bool} : SO ρ X.K T (Bx.rEq neg) (rEqY X.K neg) := fun Hs H v w x y P Q l r1 r2 ⟨d, e, hx, hy, hz, hp⟩ k => by
  obtain ⟨h1, h2⟩ := rv_py r1 hx
  obtain ⟨h3, h4⟩ := rv_py r2 hy
  exact ⟨d, e, h1, h3, h2, h4, hz, k _ H _ hp .refl (.bl _)⟩
theorem pd_eq (hu : X.A.units + 64 < cLine) (ha : PE X a (liE ρ X.K T H0 da)) (hb : PE X b (liE ρ X.K T H0 db)) : PE X (.Compare a [.Eq] [b] pos) (liE ρ X.K T H0 (dOp (Bx.rEq false) da db)) := pd_cmp (op_eqY hu) so_eq ha hb (nomark _)
theorem pd_ne (hu : X.A.units + 64 < cLine) (ha : PE X a (liE ρ X.K T H0 da)) (hb : PE X b (liE ρ X.K T H0 db)) : PE X (.Compare a [.NotEq] [b] pos) (liE ρ X.K T H0 (dOp (Bx.rEq true) da db)) := pd_cmp (op_neY hu) so_eq ha hb (nomark _)

/-! ### is None, in -/
theorem rv_isN {K : PySem.W.Frag} {Hs H : Hp} {v : V} {x : Val} (r : RV ρ K Hs H v x) : decide (v = .non) = x.isN := by
  cases x with
  | d d =>
    have r' : RD K H v d := r
    cases r' with
    | non => rfl
    | _ => exact decide_eq_false fun z => nomatch z
  | l xs => obtain ⟨a, vs, h1, h2, h3, h4⟩ := r; rw [h1]; exact decide_eq_false fun z => nomatch z
  | o xs => obtain ⟨a, vs, h1, h2, h3, h4⟩ := r; rw [h1]; exact decide_eq_false fun z => nomatch z
  | rng => obtain ⟨a, h1, h2⟩ := r; rw [h1]; exact decide_eq_false fun z => nomatch z
  | dk f => obtain ⟨a, vs, h1, h2, h3, h4⟩ := r; rw [h1]; exact decide_eq_false fun z => nomatch z
  | dn n f => obtain ⟨a, vs, h1, h2, h3, h4⟩ := r; rw [h1]; exact decide_eq_false fun z => nomatch z
  | s ns => obtain ⟨a, h1, h2⟩ := r; rw [h1]; exact decide_eq_false fun z => nomatch z
  | ty n => have r' : v = .ty n := r; rw [r']; exact decide_eq_false fun z => nomatch z
theorem pd_isN {j pos'} (ha : PE X a (liE ρ X.K T H0 da)) : PE X (.Compare a [.Is] [.Constant .none j pos'] pos) (liE ρ X.K T H0 (dIsN false da)) :=
  PEw (pe_cmp (pc_isN ha) rfl) fun σ H Q ⟨e, P, q, p, k⟩ => ⟨e, _, q, p, fun v H1 x hx e1 r1 => k _ H1 _ hx e1 (by rw [rv_isN r1]; exact RD.bl _)⟩
theorem pd_notN {j pos'} (ha : PE X a (liE ρ X.K T H0 da)) : PE X (.Compare a [.IsNot] [.Constant .none j pos'] pos) (liE ρ X.K T H0 (dIsN true da)) :=
  PEw (pe_cmp (pc_notN ha) rfl) fun σ H Q ⟨e, P, q, p, k⟩ => ⟨e, _, q, p, fun v H1 x hx e1 r1 => k _ H1 _ hx e1 (by rw [rv_isN r1]; exact RD.bl _)⟩
theorem flat_of {K : PySem.W.Frag} {H : Hp} {v : V} {d : PyData} (r : RD K H v d) (f : flatD d = true) : flatV v = true := by
  cases r <;> first | rfl | cases f
theorem flats_of {K : PySem.W.Frag} {H : Hp} : ∀ {vs : List V} {ds : List PyData}, RDs K H vs ds → ds.all flatD = true → vs.all flatV = true
  | _, _, .nil, _ => rfl
  | _, _, .cons r t, f => by
    rw [List.all_cons, Bool.and_eq_true] at f ⊢
    exact ⟨flat_of r f.1, flats_of t f.2⟩
theorem eqV_of {K : PySem.W.Frag} {H : Hp} {v w : V} {d e : PyData} (r : RD K H v d) (q : RD K H w e) (f : flatD d = true) (g : flatD e = true) : eqV v w = PyData.eqv d e := by
  cases r with
  | non => cases q <;> first | rfl | (simp only [eqV, PyData.eqv]) | cases g
  | bl b => cases q <;> first | rfl | (simp only [eqV, PyData.eqv]) | cases g
  | int i => cases q <;> first | rfl | (simp only [eqV, PyData.eqv]) | cases g
  | str z h => cases q <;> first | rfl | (simp only [eqV, PyData.eqv]) | cases g
  | tup h1 h2 => cases f
theorem inV_of {K : PySem.W.Frag} {H : Hp} {w : V} {e : PyData} (q : RD K H w e) (g : flatD e = true) : ∀ {vs : List V} {ds : List PyData}, RDs K H vs ds → ds.all flatD = true → inV w vs = ds.any fun z => PyData.eqv z e
  | _, _, .nil, _ => rfl
  | _, _, .cons r t, f => by
    rw [List.all_cons, Bool.and_eq_true] at f
    unfold inV
    rw [List.any_cons, List.any_cons, eqV_of r q f.1 g]
    congr 1
    exact inV_of q g t f.2
theorem so_in {neg : Bool} : SO ρ X.K T (Bx.rInS neg) (rIn X.K neg) := fun Hs H v w x y P Q l r1 r2 ⟨d, ys, ex, hy, f1, f2, hp⟩ k => by
  subst ex
  obtain ⟨a, vs, ew, hsq, hr⟩ := rv_seq r2 hy
  have rd : RD X.K H v d := r1
  refine ⟨a, vs, ew, hsq, flat_of rd f1, flats_of hr f2, ?_⟩
  rw [inV_of rd f1 hr f2]
  exact k _ H _ hp .refl (.bl _)
theorem pd_in (ha : PE X a (liE ρ X.K T H0 da)) (hb : PE X b (liE ρ X.K T H0 db)) (hm : behindInMarks .In b = false := by rfl) : PE X (.Compare a [.In] [b] pos) (liE ρ X.K T H0 (dOp (Bx.rInS false) da db)) := pd_cmp op_in_seq so_in ha hb hm
theorem pd_notin (ha : PE X a (liE ρ X.K T H0 da)) (hb : PE X b (liE ρ X.K T H0 db)) (hm : behindInMarks .NotIn b = false := by rfl) : PE X (.Compare a [.NotIn] [b] pos) (liE ρ X.K T H0 (dOp (Bx.rInS true) da db)) := pd_cmp op_notIn_seq so_in ha hb hm
/-- None in a list of data -/
def rInNY (K : PySem.W.Frag) : R2 := fun x y H Q => ∃ ds, x = .non ∧ Dp K H y (.list ds) ∧ PyData.canLay0 (.list ds) = true ∧ Q (.bl (ds.any fun z => PyData.eqv z .none)) H
theorem op_inN (hu : X.A.units + 65 < cLine) : OpR X (compareOp .In) (rInNY X.K) := by
  intro pins s σ H x y v u Q I rx ry h
  obtain ⟨ds, ex, he, se, q⟩ := h
  subst ex
  obtain ⟨as, r1⟩ := Dp.reads I .none .non v .non rx
  obtain ⟨bs, r2⟩ := Dp.reads I (.list ds) y u he ry
  exact SeqAt.in_list_reads r2 r1 (by simpa only [PyData.canLay0] using se) (by simp only [PyData.canLay0]) (by simp only [PyData.depth]; omega) ⟨.bl _, H, I, rfl, q⟩
theorem isNone_eqv (z : PyData) : PyData.eqv z .none = isNoneD z := by cases z <;> simp only [PyData.eqv, isNoneD]
theorem so_inN : SO ρ X.K T rInN (rInNY X.K) := fun Hs H v w x y P Q l r1 r2 ⟨ys, ex, hy, hp⟩ k => by
  subst ex
  obtain ⟨h3, h4⟩ := rv_py (d := .list ys) r2 (by cases y <;> first | (cases hy; rfl) | cases hy)
  refine ⟨ys, rv_non r1, h3, h4, ?_⟩
  have ee : (ys.any fun z => PyData.eqv z .none) = ys.any isNoneD := by
    congr 1
    funext z
    exact isNone_eqv z
  rw [ee]
  exact k _ H _ hp .refl (.bl _)
theorem pd_inN (hu : X.A.units + 65 < cLine) (ha : PE X a (liE ρ X.K T H0 da)) (hb : PE X b (liE ρ X.K T H0 db)) (hm : behindInMarks .In b = false := by rfl) : PE X (.Compare a [.In] [b] pos) (liE ρ X.K T H0 (dOp rInN da db)) := pd_cmp (op_inN hu) so_inN ha hb hm

/-! ### the order of data -/
def rOrd (K : PySem.W.Frag) (g : PyData → PyData → Bool) : R2 := fun x y H Q => ∃ d e, Dp K H x d ∧ Dp K H y e ∧ PySem.W.alike d e = true ∧ d ≠ .none ∧ d.depth ≤ 60 ∧ Q (.bl (g d e)) H
theorem op_ord {op : CmpOp} {g : PyData → PyData → Bool} (hu : X.A.units + 64 < cLine)
    (rule : ∀ {s : Shared} {u v : Value} {d e : PyData} {as bs : List Addr} {Q : Value → Shared → Prop}, Reads s.heap u d as → Reads s.heap v e bs → PySem.W.alike d e = true → d ≠ .none → X.A.units + min d.depth e.depth < cLine → Q (.bool (g d e)) s → wpAny (model X.prog X.w) X.A (compareOp op u v) Q X.xe s) : OpR X (compareOp op) (rOrd X.K g) := by
  intro pins s σ H x y v u Q I rx ry h
  obtain ⟨d, e, hd, he, al, nn, hz, q⟩ := h
  obtain ⟨as, r1⟩ := Dp.reads I d x v hd rx
  obtain ⟨bs, r2⟩ := Dp.reads I e y u he ry
  exact rule r1 r2 al nn (by have := Nat.min_le_left d.depth e.depth; omega) ⟨.bl _, H, I, rfl, q⟩
theorem op_ltD (hu : X.A.units + 64 < cLine) : OpR X (compareOp .Lt) (rOrd X.K fun d e => PySem.W.dataLt d e) := op_ord hu fun ra rb h hn hz hq => PySem.W.lt_data ra rb h hn hz hq
theorem op_gtD (hu : X.A.units + 64 < cLine) : OpR X (compareOp .Gt) (rOrd X.K fun d e => PySem.W.dataLt e d) := op_ord hu fun ra rb h hn hz hq => PySem.W.gt_data ra rb h hn hz hq
theorem op_leD (hu : X.A.units + 64 < cLine) : OpR X (compareOp .LtE) (rOrd X.K fun d e => !PySem.W.dataLt e d) := op_ord hu fun ra rb h hn hz hq => PySem.W.le_data ra rb h hn hz hq
theorem so_ord {g : PyData → PyData → Bool} : SO ρ X.K T (fun x y P => ∃ a b, x = .d a ∧ y = .d b ∧ PySem.W.alike a b = true ∧ a ≠ .none ∧ a.depth ≤ 60 ∧ P (.d (.bool (g a b)))) (rOrd X.K g) := fun Hs H v w x y P Q l r1 r2 ⟨d, e, hx, hy, h1, h2, h3, hp⟩ k => by
  subst hx hy
  exact ⟨d, e, RD.dp _ _ r1, RD.dp _ _ r2, h1, h2, h3, k _ H _ hp .refl (.bl _)⟩
theorem pd_ltD (hu : X.A.units + 64 < cLine) (ha : PE X a (liE ρ X.K T H0 da)) (hb : PE X b (liE ρ X.K T H0 db)) : PE X (.Compare a [.Lt] [b] pos) (liE ρ X.K T H0 (dOp rLtD da db)) := pd_cmp (op_ltD hu) so_ord ha hb (nomark _)
theorem pd_gtD (hu : X.A.units + 64 < cLine) (ha : PE X a (liE ρ X.K T H0 da)) (hb : PE X b (liE ρ X.K T H0 db)) : PE X (.Compare a [.Gt] [b] pos) (liE ρ X.K T H0 (dOp rGtD da db)) := pd_cmp (op_gtD hu) so_ord ha hb (nomark _)
theorem pd_leD (hu : X.A.units + 64 < cLine) (ha : PE X a (liE ρ X.K T H0 da)) (hb : PE X b (liE ρ X.K T H0 db)) : PE X (.Compare a [.LtE] [b] pos) (liE ρ X.K T H0 (dOp rLeD da db)) := pd_cmp (op_leD hu) so_ord ha hb (nomark _)

/-! ### -a, a <= b < c, and, or, not, if -/
theorem pd_neg (ha : PE X a (liE ρ X.K T H0 da)) : PE X (.UnaryOp .USub a pos) (liE ρ X.K T H0 (dNeg da)) :=
  PEw (pe_un un_neg ha) fun σ H Q ⟨e, P, q, p, k⟩ => ⟨e, _, q, p, fun v H1 x ⟨i, ex, hx⟩ e1 r1 => by
    subst ex
    exact ⟨i, rv_int r1, k _ H1 _ hx e1 (.int _)⟩⟩
theorem pd_chain (ha : PE X a (liE ρ X.K T H0 da)) (hb : PE X b (liE ρ X.K T H0 db)) (hc : PE X c (liE ρ X.K T H0 dc)) (hm : lastMarks [.LtE, .Lt] [b, c] = false := by with_unfolding_all rfl) : PE X (.Compare a [.LtE, .Lt] [b, c] pos) (liE ρ X.K T H0 (dChain da db dc)) :=
  PEw (pe_chain op_le op_lt ha hb hc hm) fun σ H Q ⟨e, P, q, p, k⟩ => ⟨e, _, q, p, fun v H1 x hx e1 r1 => ⟨e, _, q.to e1, hx, fun w H2 y hy e2 r2 => by
    obtain ⟨i, j, ex, ey, hy⟩ := hy
    subst ex ey
    refine ⟨i, j, rv_int r1, rv_int r2, decide (i ≤ j), rfl, ?_⟩
    by_cases hij : i ≤ j
    · rw [if_pos hij] at hy
      rw [if_pos (decide_eq_true hij)]
      refine ⟨e, _, (q.to e1).to e2, hy, fun z H3 u hu e3 r3 => ?_⟩
      obtain ⟨l, eu, hl⟩ := hu
      subst eu
      exact ⟨j, l, rv_int r2, rv_int r3, k _ H3 _ hl ((e1.trans e2).trans e3) (.bl _)⟩
    · rw [if_neg hij] at hy
      rw [if_neg (by rw [decide_eq_false hij]; exact Bool.false_ne_true)]
      exact k _ H2 _ hy (e1.trans e2) (.bl _)⟩⟩
variable {rest : List Expr}
theorem pd_one {op} (h : PE X a (liE ρ X.K T H0 da)) : PE X (.BoolOp op [a] pos) (liE ρ X.K T H0 da) := pe_one h
theorem pd_and (ha : PE X a (liE ρ X.K T H0 da)) (hb : PE X (.BoolOp .And (b :: rest) pos) (liE ρ X.K T H0 db)) : PE X (.BoolOp .And (a :: b :: rest) pos) (liE ρ X.K T H0 (dAndV da db)) :=
  PEw (pe_and ha hb) fun σ H Q ⟨e, P, q, p, k⟩ => ⟨e, _, q, p, fun v H1 x ⟨c, ex, hx⟩ e1 r1 => by
    subst ex
    refine ⟨c, rv_bl r1, ?_⟩
    cases c with
    | true => exact ⟨e, P, q.to e1, hx, fun w H2 y hy e2 r2 => k w H2 y hy (e1.trans e2) (r2.back e1.fr)⟩
    | false => exact k _ H1 _ hx e1 (.bl _)⟩
theorem pd_or (ha : PE X a (liE ρ X.K T H0 da)) (hb : PE X (.BoolOp .Or (b :: rest) pos) (liE ρ X.K T H0 db)) : PE X (.BoolOp .Or (a :: b :: rest) pos) (liE ρ X.K T H0 (dOrV da db)) :=
  PEw (pe_or ha hb) fun σ H Q ⟨e, P, q, p, k⟩ => ⟨e, _, q, p, fun v H1 x ⟨c, ex, hx⟩ e1 r1 => by
    subst ex
    refine ⟨c, rv_bl r1, ?_⟩
    cases c with
    | false => exact ⟨e, P, q.to e1, hx, fun w H2 y hy e2 r2 => k w H2 y hy (e1.trans e2) (r2.back e1.fr)⟩
    | true => exact k _ H1 _ hx e1 (.bl _)⟩
theorem pd_not (ha : PE X a (liE ρ X.K T H0 da)) : PE X (.UnaryOp .Not a pos) (liE ρ X.K T H0 (dNotV da)) :=
  PEw (pe_not ha) fun σ H Q ⟨e, P, q, p, k⟩ => ⟨e, _, q, p, fun v H1 x ⟨c, ex, hx⟩ e1 r1 => by
    subst ex
    exact ⟨c, rv_bl r1, k _ H1 _ hx e1 (.bl _)⟩⟩
/-- tests -/
theorem ptd_val (h : PE X a (liE ρ X.K T H0 da)) (he : ∀ whole, isTrue a X.env whole = (do let v ← whole; standAt a.pos; holding [v] (truthy v)) := by intro _; rfl) : PT X a (liT ρ X.K T H0 (dT da)) :=
  PTw (pt_val h he) fun σ H Q ⟨e, P, q, p, k⟩ => ⟨e, _, q, p, fun v H1 x ⟨c, ex, hx⟩ e1 r1 => by
    subst ex
    exact ⟨c, rv_bl r1, k c H1 hx e1⟩⟩
theorem ptd_cmp1 {op : CmpOp} (h : PE X (.Compare a [op] [b] pos) (liE ρ X.K T H0 da)) (hc : PC X op a b (liE ρ X.K T H0 da)) (h1 : behindInMarks op b = false) : PT X (.Compare a [op] [b] pos) (liT ρ X.K T H0 (dT da)) :=
  PTw (pt_cmp hc h1) fun σ H Q ⟨e, P, q, p, k⟩ => ⟨e, _, q, p, fun v H1 x ⟨c, ex, hx⟩ e1 r1 => by
    subst ex
    exact ⟨c, rv_bl r1, k c H1 hx e1⟩⟩
variable {ta tb : DT}
theorem pwd_and1 (ha : PT X a (liT ρ X.K T H0 ta)) : PW X (.BoolOp .And [a] pos) (liT ρ X.K T H0 ta) := pw_and1 ha
theorem pwd_or1 (ha : PT X a (liT ρ X.K T H0 ta)) : PW X (.BoolOp .Or [a] pos) (liT ρ X.K T H0 ta) := pw_or1 ha
theorem pwd_and (ha : PT X a (liT ρ X.K T H0 ta)) (hb : PW X (.BoolOp .And (b :: rest) pos) (liT ρ X.K T H0 tb)) : PW X (.BoolOp .And (a :: b :: rest) pos) (liT ρ X.K T H0 (dAnd ta tb)) :=
  PWw (pw_and ha hb) fun σ H Q ⟨e, P, q, p, k⟩ => ⟨e, _, q, p, fun c H1 hx e1 => by
    cases c with
    | true => exact ⟨e, P, q.to e1, hx, fun w H2 hy e2 => k w H2 hy (e1.trans e2)⟩
    | false => exact k _ H1 hx e1⟩
theorem pwd_or (ha : PT X a (liT ρ X.K T H0 ta)) (hb : PW X (.BoolOp .Or (b :: rest) pos) (liT ρ X.K T H0 tb)) : PW X (.BoolOp .Or (a :: b :: rest) pos) (liT ρ X.K T H0 (dOr ta tb)) :=
  PWw (pw_or ha hb) fun σ H Q ⟨e, P, q, p, k⟩ => ⟨e, _, q, p, fun c H1 hx e1 => by
    cases c with
    | false => exact ⟨e, P, q.to e1, hx, fun w H2 hy e2 => k w H2 hy (e1.trans e2)⟩
    | true => exact k _ H1 hx e1⟩
theorem ptd_not (ha : PT X a (liT ρ X.K T H0 ta)) : PT X (.UnaryOp .Not a pos) (liT ρ X.K T H0 (dNot ta)) :=
  PTw (pt_not ha) fun σ H Q ⟨e, P, q, p, k⟩ => ⟨e, _, q, p, fun c H1 hx e1 => k _ H1 hx e1⟩
theorem pd_if (ht : PT X c (liT ρ X.K T H0 ta)) (ha : PE X a (liE ρ X.K T H0 da)) (hb : PE X b (liE ρ X.K T H0 db)) : PE X (.IfExp c a b pos) (liE ρ X.K T H0 (dIfE ta da db)) :=
  PEw (pe_ifExp ht ha hb) fun σ H Q ⟨e, P, q, p, k⟩ => ⟨e, _, q, p, fun c H1 hx e1 => by
    cases c with
    | true => exact ⟨e, P, q.to e1, hx, fun w H2 y hy e2 r2 => k w H2 y hy (e1.trans e2) (r2.back e1.fr)⟩
    | false => exact ⟨e, P, q.to e1, hx, fun w H2 y hy e2 r2 => k w H2 y hy (e1.trans e2) (r2.back e1.fr)⟩⟩

/-! ### slices -/
theorem pdo_none : PO X none (liO ρ X.K T H0 doN) := POw po_none fun σ H Q ⟨e, P, q, p, k⟩ => k _ H p .refl
theorem pdo_some (h : PE X a (liE ρ X.K T H0 da)) : PO X (some a) (liO ρ X.K T H0 (doS da)) := POw (po_some h) fun σ H Q ⟨e, P, q, p, k⟩ => ⟨e, _, q, p, fun v H1 x ⟨i, ex, hx⟩ e1 r1 => by
  subst ex
  exact ⟨i, rv_int r1, k _ H1 hx e1⟩⟩
variable {lo hi : Option Expr} {dl dh : DO} {p2 : Pos}
theorem pd_slL (he : PE X a (liE ρ X.K T H0 da)) (hl : PO X lo (liO ρ X.K T H0 dl)) (hu : PO X hi (liO ρ X.K T H0 dh)) : PE X (.Subscript a (.Slice lo hi none p2) pos) (liE ρ X.K T H0 (dSlL da dl dh)) :=
  PEw (pe_slice sl_list he hl hu) fun σ H Q ⟨e, P, q, p, k⟩ => ⟨e, _, q, p, fun v H1 x hx e1 r1 => ⟨e, _, q.to e1, hx, fun l H2 hl e2 => ⟨e, _, (q.to e1).to e2, hl, fun h H3 hh e3 => by
    obtain ⟨xs, hx, hp⟩ := hh
    have l3 := e3.live (e2.live (e1.live q.live))
    obtain ⟨a, vs, ev, nρ, ha, hr⟩ := rv_lst ((r1.ext e2 (e1.live q.live)).ext e3 (e2.live (e1.live q.live))) hx
    refine ⟨a, vs, ev, SqL.of ha, fun z hz => ?_⟩
    have e4 : Ext ρ T H3 (upd H3 z (.lst (cutV vs l h))) := .new hz
    have nq : some z ≠ ρ := fun y => by
      obtain ⟨_, _, _, w⟩ := l3 z y.symm
      rw [hz] at w
      cases w
    exact k _ _ _ hp (((e1.trans e2).trans e3).trans e4) ⟨z, _, rfl, nq, ((e1.trans e2).trans e3).fr z (.of hz), upd_same, (hr.cut l h).ext e4 l3⟩⟩⟩⟩
theorem sIx_bounds (n d : Nat) (hd : d ≤ n) (o : Option Int) : HT.sIx n d o ≤ n := HT.sIx_le n d hd o
theorem pd_slT (he : PE X a (liE ρ X.K T H0 da)) (hl : PO X lo (liO ρ X.K T H0 dl)) (hu : PO X hi (liO ρ X.K T H0 dh)) : PE X (.Subscript a (.Slice lo hi none p2) pos) (liE ρ X.K T H0 (dSlT da dl dh)) :=
  PEw (pe_slice sl_tupA he hl hu) fun σ H Q ⟨e, P, q, p, k⟩ => ⟨e, _, q, p, fun v H1 x hx e1 r1 => ⟨e, _, q.to e1, hx, fun l H2 hl e2 => ⟨e, _, (q.to e1).to e2, hl, fun h H3 hh e3 => by
    obtain ⟨xs, ex, hp⟩ := hh
    subst ex
    have l3 := e3.live (e2.live (e1.live q.live))
    obtain ⟨a, vs, ev, ha, hr⟩ := rv_tup ((r1.ext e2 (e1.live q.live)).ext e3 (e2.live (e1.live q.live)))
    refine ⟨a, vs, ev, ha, fun hw => ?_, fun _ z hz => ?_⟩
    · have ec : cut xs l h = xs := by
        unfold Bx.cut
        rw [← hr.length, hw.1, hw.2, List.drop_zero, Nat.sub_zero, hr.length, List.take_length]
      rw [ec] at hp
      exact k _ _ _ hp ((e1.trans e2).trans e3) (RD.tup ha hr)
    · have e4 : Ext ρ T H3 (upd H3 z (.tup (cutV vs l h))) := .new hz
      exact k _ _ _ hp (((e1.trans e2).trans e3).trans e4) (RD.tup (.inl (.inl upd_same)) ((hr.cut l h).ext e4 l3))⟩⟩⟩
end
end Bx
/-! Bx4: calls, built-ins, targets, statements, loops -/
namespace Bx
open PySem PySem.Spec PyProof.Rows L2
open LamX (Tabs)
section
variable {X : Cx} {ρ : Option Addr} {T : Tb} {H0 : Hp} {a b c : Expr} {es : List Expr} {pos : Pos} {da db dc : DE} {n : Nat}
theorem Live.new {H : Hp} {q : Addr} (l : Live ρ H) (hq : H q = none) : some q ≠ ρ := fun z => by
  obtain ⟨_, _, _, w⟩ := l q z.symm
  rw [hq] at w
  cases w
/-! ### built-ins by values -/
def SC (ρ : Option Addr) (K : PySem.W.Frag) (T : Tb) (r : DF) (r' : List V → Hp → VK → Prop) : Prop := ∀ (Hs H : Hp) (vs : List V) (xs : List Val) (P : Val → Prop) (Q : VK), Live ρ H → RVs ρ K Hs H vs xs → r xs P →
  (∀ z H' u, P u → Ext ρ T H H' → RV ρ K H H' z u → Q z H') → r' vs H Q
theorem sc_f {r : DF} {r' : List V → Hp → VK → Prop} {d : DA} (hs : SC ρ X.K T r r') {σ H Q} (h : liE ρ X.K T H0 (dF r d) σ H Q) : tCB r' (liA n ρ X.K T H0 d) σ H Q := by
  obtain ⟨e, P, q, p, k⟩ := h
  exact ⟨e, _, q, p, fun vs H1 xs hx e1 r1 hl => hs H H1 vs xs P Q (e1.live q.live) r1 hx fun z H2 u hu e2 r2 => k z H2 u hu (e1.trans e2) (r2.back e1.fr)⟩
theorem pd_callB {x : Str} {p : Pos} {id : String} {r : DF} {r' : List V → Hp → VK → Prop} {d : DA} (hc : CallR X (.builtin id) r') (hs : SC ρ X.K T r r') (hg : Gl X x) (hm : X.mg x = none) (hv : bootBuiltins x = some (.builtin id)) (ha : PA X (a :: es) (liA n ρ X.K T H0 d))
    (hn : x ≠ "__name__" := by decide) (hdb : (x == ("__debug__" : Str)) = false := by decide) (he : starEach (a :: es) X.env = (false, eval a X.env) :: starEach es X.env := by rfl) (hpl : (backTo pos (starEach es X.env)).any (·.1) = false := by rfl) :
    PE X (.Call (.Name x p) (a :: es) [] pos) (liE ρ X.K T H0 (dF r d)) := PEw (pe_callB hc hg hm hv ha hn hdb he hpl) fun _ _ _ h => sc_f hs h
theorem pd_callTy {x : Str} {p : Pos} {id : String} {r : DF} {r' : List V → Hp → VK → Prop} {d : DA} (hc : CallR X (.type id) r') (hs : SC ρ X.K T r r') (hg : Gl X x) (hm : X.mg x = none) (hv : bootBuiltins x = some (.type id)) (ha : PA X (a :: es) (liA n ρ X.K T H0 d))
    (hn : x ≠ "__name__" := by decide) (hdb : (x == ("__debug__" : Str)) = false := by decide) (he : starEach (a :: es) X.env = (false, eval a X.env) :: starEach es X.env := by rfl) (hpl : (backTo pos (starEach es X.env)).any (·.1) = false := by rfl) :
    PE X (.Call (.Name x p) (a :: es) [] pos) (liE ρ X.K T H0 (dF r d)) := PEw (pe_callTy hc hg hm hv ha hn hdb he hpl) fun _ _ _ h => sc_f hs h
theorem rvs1 {K : PySem.W.Frag} {Hs H : Hp} {vs : List V} {x : Val} (r : RVs ρ K Hs H vs [x]) : ∃ v, vs = [v] ∧ RV ρ K Hs H v x := by
  cases r with
  | cons h t => cases t; exact ⟨_, rfl, h⟩
theorem rvs2 {K : PySem.W.Frag} {Hs H : Hp} {vs : List V} {x y : Val} (r : RVs ρ K Hs H vs [x, y]) : ∃ v w, vs = [v, w] ∧ RV ρ K Hs H v x ∧ RV ρ K Hs H w y := by
  cases r with
  | cons h t =>
    obtain ⟨w, rfl, h2⟩ := rvs1 t
    exact ⟨_, _, rfl, h, h2⟩
theorem rvs3 {K : PySem.W.Frag} {Hs H : Hp} {vs : List V} {x y z : Val} (r : RVs ρ K Hs H vs [x, y, z]) : ∃ v w u, vs = [v, w, u] ∧ RV ρ K Hs H v x ∧ RV ρ K Hs H w y ∧ RV ρ K Hs H u z := by
  cases r with
  | cons h t =>
    obtain ⟨w, u, rfl, h2, h3⟩ := rvs2 t
    exact ⟨_, _, _, rfl, h, h2, h3⟩
theorem sc_len : SC ρ X.K T fLen (fun xs H Q => ∃ p ys, xs = [.ref p] ∧ (SqL X.K H p ys ∨ SqT X.K H p ys) ∧ Q (.int ys.length) H) := fun Hs H vs xs P Q l r ⟨x, ds, ex, hx, hp⟩ k => by
  subst ex
  obtain ⟨v, rfl, r1⟩ := rvs1 r
  obtain ⟨a, ws, ev, hsq, hr⟩ := rv_seq r1 hx
  refine ⟨a, ws, by rw [ev], hsq, k _ H _ hp .refl ?_⟩
  rw [hr.length]
  exact RD.int _
theorem sc_abs : SC ρ X.K T fAbs (fun xs H Q => ∃ i, xs = [.int i] ∧ Q (.int (if i < 0 then -i else i)) H) := fun Hs H vs xs P Q l r ⟨i, ex, hp⟩ k => by
  subst ex
  obtain ⟨v, rfl, r1⟩ := rvs1 r
  exact ⟨i, by rw [rv_int r1], k _ H _ hp .refl (.int _)⟩
theorem sc_int : SC ρ X.K T fInt (fun xs H Q => (∃ i, xs = [.int i] ∧ Q (.int i) H) ∨ ∃ k, xs = [.bl k] ∧ Q (.int (if k then 1 else 0)) H) := fun Hs H vs xs P Q l r ⟨c, ex, hp⟩ k => by
  subst ex
  obtain ⟨v, rfl, r1⟩ := rvs1 r
  exact .inr ⟨c, by rw [rv_bl r1], k _ H _ hp .refl (.int _)⟩
theorem sc_min2 : SC ρ X.K T fMin2 (fun xs H Q => ∃ i j, xs = [.int i, .int j] ∧ Q (.int (if j < i then j else i)) H) := fun Hs H vs xs P Q l r ⟨i, j, ex, hp⟩ k => by
  subst ex
  obtain ⟨v, w, rfl, r1, r2⟩ := rvs2 r
  exact ⟨i, j, by rw [rv_int r1, rv_int r2], k _ H _ hp .refl (.int _)⟩
theorem sc_max2 : SC ρ X.K T fMax2 (fun xs H Q => ∃ i j, xs = [.int i, .int j] ∧ Q (.int (if j > i then j else i)) H) := fun Hs H vs xs P Q l r ⟨i, j, ex, hp⟩ k => by
  subst ex
  obtain ⟨v, w, rfl, r1, r2⟩ := rvs2 r
  exact ⟨i, j, by rw [rv_int r1, rv_int r2], k _ H _ hp .refl (.int _)⟩
theorem sc_minL : SC ρ X.K T fMinL (rMin X.K) := fun Hs H vs xs P Q l r ⟨x, ns, ex, hx, h0, hp⟩ k => by
  subst ex
  obtain ⟨v, rfl, r1⟩ := rvs1 r
  obtain ⟨a, ws, ev, _, ha, hr⟩ := rv_lst r1 hx
  have ew := hr.ints
  subst ew
  exact ⟨a, ns, by rw [ev], SqL.of ha, h0, fun m h1 h2 => k _ H _ (hp m h1 h2) .refl (.int _)⟩
theorem sc_maxL : SC ρ X.K T fMaxL (rMax X.K) := fun Hs H vs xs P Q l r ⟨x, ns, ex, hx, h0, hp⟩ k => by
  subst ex
  obtain ⟨v, rfl, r1⟩ := rvs1 r
  obtain ⟨a, ws, ev, _, ha, hr⟩ := rv_lst r1 hx
  have ew := hr.ints
  subst ew
  exact ⟨a, ns, by rw [ev], SqL.of ha, h0, fun m h1 h2 => k _ H _ (hp m h1 h2) .refl (.int _)⟩
theorem sc_sum : SC ρ X.K T fSum (rSum X.K) := fun Hs H vs xs P Q l r ⟨x, ns, ex, hx, hp⟩ k => by
  subst ex
  obtain ⟨v, rfl, r1⟩ := rvs1 r
  obtain ⟨a, ws, ev, _, ha, hr⟩ := rv_lst r1 hx
  have ew := hr.ints
  subst ew
  exact ⟨a, ns, by rw [ev], SqL.of ha, k _ H _ hp .refl (.int _)⟩
theorem sc_all : SC ρ X.K T fAll (rAll X.K) := fun Hs H vs xs P Q l r ⟨x, ns, ex, hx, hp⟩ k => by
  subst ex
  obtain ⟨v, rfl, r1⟩ := rvs1 r
  obtain ⟨a, ws, ev, _, ha, hr⟩ := rv_lst r1 hx
  have ew := hr.bools
  subst ew
  exact ⟨a, ns, by rw [ev], SqL.of ha, k _ H _ hp .refl (.bl _)⟩
theorem sc_any : SC ρ X.K T fAny (rAny X.K) := fun Hs H vs xs P Q l r ⟨x, ns, ex, hx, hp⟩ k => by
  subst ex
  obtain ⟨v, rfl, r1⟩ := rvs1 r
  obtain ⟨a, ws, ev, _, ha, hr⟩ := rv_lst r1 hx
  have ew := hr.bools
  subst ew
  exact ⟨a, ns, by rw [ev], SqL.of ha, k _ H _ hp .refl (.bl _)⟩
theorem sc_tuple : SC ρ X.K T fTuple (fun xs H Q => ∃ p ys, xs = [.ref p] ∧ ((SqL X.K H p ys ∧ ∀ l, H l = none → Q (.ref l) (upd H l (.tup ys))) ∨ (SqT X.K H p ys ∧ Q (.ref p) H))) := fun Hs H vs xs P Q l r ⟨x, ns, ex, hx, hp⟩ k => by
  subst ex
  obtain ⟨v, rfl, r1⟩ := rvs1 r
  obtain ⟨a, ws, ev, _, ha, hr⟩ := rv_lst r1 hx
  refine ⟨a, ws, by rw [ev], .inl ⟨SqL.of ha, fun q hq => ?_⟩⟩
  have e2 : Ext ρ T H (upd H q (.tup ws)) := .new hq
  exact k _ _ _ hp e2 (RD.tup (.inl (.inl upd_same)) (hr.ext e2 l))
theorem sc_list : SC ρ X.K T fList (fun xs H Q => ∃ p ys, xs = [.ref p] ∧ (SqL X.K H p ys ∨ SqT X.K H p ys) ∧ ∀ l, H l = none → Q (.ref l) (upd H l (.lst ys))) := fun Hs H vs xs P Q l r ⟨x, ns, ex, hx, hp⟩ k => by
  subst ex
  obtain ⟨v, rfl, r1⟩ := rvs1 r
  obtain ⟨a, ws, ev, hsq, hr⟩ := rv_seq r1 hx
  refine ⟨a, ws, by rw [ev], hsq, fun q hq => ?_⟩
  have e2 : Ext ρ T H (upd H q (.lst ws)) := .new hq
  exact k _ _ _ hp e2 ⟨q, ws, rfl, l.new hq, .of hq, upd_same, hr.ext e2 l⟩
/-- a list of pairs -/
theorem pairs_at {K : PySem.W.Frag} {H : Hp} : ∀ {ps : List (Int × PyData)} {vs : List V}, RDs K H vs (ps.map pairD) →
    ∃ (as : List Addr) (us : List V), vs = as.map V.ref ∧ us.length = ps.length ∧ Paired (fun p kv => SqT K H p [kV kv.1, kv.2]) as ((ps.map fun p => (Sum.inl p.1 : Key)).zip us) ∧ ∀ (i : Nat) (p : Int × PyData) u, ps[i]? = some p → us[i]? = some u → RD K H u p.2
  | [], _, .nil => ⟨[], [], rfl, rfl, .nil, fun i p u h => by simp at h⟩
  | p :: ps, v :: vs, h => by
    have h' : RDs K H (v :: vs) (pairD p :: ps.map pairD) := h
    cases h' with
    | cons h1 h2 =>
      obtain ⟨as, us, e1, e2, e3, e4⟩ := pairs_at h2
      have h1' : RD K H v (.tuple [.int p.1, p.2]) := h1
      cases h1' with
      | @tup t ws _ hT hr =>
        cases hr with
        | @cons w0 wr _ _ a1 a2 =>
          cases a2 with
          | @cons w1 _ _ _ b1 b2 =>
            cases b2
            cases a1
            refine ⟨t :: as, w1 :: us, by rw [e1]; rfl, by rw [List.length_cons, List.length_cons, e2], ?_, fun i q u hq hu => ?_⟩
            · exact .cons (show SqT K H t [kV (Sum.inl p.1), w1] from hT) e3
            · cases i with
              | zero =>
                simp at hq hu
                subst hq hu
                exact b1
              | succ i => exact e4 i q u (by simpa using hq) (by simpa using hu)
theorem rf_put {K : PySem.W.Frag} {H : Hp} {kvs : List (Key × V)} {f : Int → Option PyData} (r : RF K H kvs f) {n : Int} {v : V} {d : PyData} (h : RD K H v d) : RF K H (putK kvs (Sum.inl n) v) (fput f n d) := fun m => by
  unfold fput
  rw [valV_put]
  by_cases e : m = n
  · subst e
    rw [if_pos rfl, if_pos rfl]
    exact h
  · rw [if_neg e, if_neg fun z => e (Sum.inl.inj z)]
    exact r m
theorem rf_merge {K : PySem.W.Frag} {H : Hp} : ∀ (ps : List (Int × PyData)) (us : List V) (kvs : List (Key × V)) (f : Int → Option PyData), us.length = ps.length → (∀ (i : Nat) (p : Int × PyData) u, ps[i]? = some p → us[i]? = some u → RD K H u p.2) → RF K H kvs f →
    RF K H (mergeK kvs ((ps.map fun p => (Sum.inl p.1 : Key)).zip us)) (fmerge f ps)
  | [], [], kvs, f, _, _, r => r
  | p :: ps, u :: us, kvs, f, hl, hr, r => by
    have q := rf_merge ps us (putK kvs (Sum.inl p.1) u) (fput f p.1 p.2) (by simpa using hl) (fun i p' u' h1 h2 => hr (i + 1) p' u' (by simpa using h1) (by simpa using h2)) (rf_put r (hr 0 p u rfl rfl))
    exact q
  | [], _ :: _, _, _, h, _, _ => by simp at h
  | _ :: _, [], _, _, h, _, _ => by simp at h
theorem rf_nil {K : PySem.W.Frag} {H : Hp} : RF K H [] (fun _ => none) := fun _ => trivial
theorem sc_dict : SC ρ X.K T fDict (fun xs H Q => ∃ (a : Addr) (ps : List Addr) (kvs : List (Key × V)), xs = [.ref a] ∧ SqL X.K H a (ps.map V.ref) ∧ Paired (fun p kv => SqT X.K H p [kV kv.1, kv.2]) ps kvs ∧
    ∀ p, H p = none → Q (.ref p) (upd H p (.dK (mergeK [] kvs)))) := fun Hs H vs xs P Q l r ⟨x, ps, ex, hx, hp⟩ k => by
  subst ex
  obtain ⟨v, rfl, r1⟩ := rvs1 r
  obtain ⟨a, ws, ev, _, ha, hr⟩ := rv_lst r1 hx
  obtain ⟨as, us, e1, e2, e3, e4⟩ := pairs_at hr
  subst e1
  refine ⟨a, as, _, by rw [ev], SqL.of ha, e3, fun q hq => ?_⟩
  have ex : Ext ρ T H (upd H q (.dK (mergeK [] ((ps.map fun p => (Sum.inl p.1 : Key)).zip us)))) := .new hq
  refine k _ _ _ hp ex ⟨q, _, rfl, l.new hq, .of hq, upd_same, (rf_merge ps us [] _ e2 e4 rf_nil).keep (ex.tup l), ?_⟩
  refine Nat.le_trans (length_mergeK _ _) ?_
  rw [List.length_zip, List.length_map, List.length_nil]
  omega
/-- isinstance -/
theorem tyX_of {K : PySem.W.Frag} {H : Hp} {v : V} {d : PyData} (r : RD K H v d) : TyX K H v (.type (tyD d)) := by
  cases r with
  | non => exact .base .non
  | bl b => exact .base (.bl b)
  | int i => exact .base (.int i)
  | str x h => exact .base (.str x)
  | tup h1 h2 =>
    rcases h1 with (h | ⟨o, h⟩) | ⟨o, its, n, h, c, _⟩
    · exact .base (.tup h)
    · exact .fTuple h
    · exact .kTuple h c
theorem sc_isi : SC ρ X.K T fIsi (rIsi X.K) := fun Hs H vs xs P Q l r ⟨d, nm, ex, hn, hp⟩ k => by
  subst ex
  obtain ⟨v, w, rfl, r1, r2⟩ := rvs2 r
  have rd : RD X.K H v d := r1
  have rw' : w = .ty nm := r2
  subst rw'
  refine ⟨v, .ty nm, .type (tyD d), .type nm, isiB d nm, rfl, .ty nm, tyX_of rd, ?_, k _ H _ hp .refl (.bl _)⟩
  cases rd with
  | non =>
    rcases hn with e | e | e | e
    · rw [e]; exact kit_ty (show kitB "NoneType" "int" = some (isiS "NoneType" "int") by decide +kernel)
    · rw [e]; exact kit_ty (show kitB "NoneType" "bool" = some (isiS "NoneType" "bool") by decide +kernel)
    · rw [e]; exact kit_ty (show kitB "NoneType" "tuple" = some (isiS "NoneType" "tuple") by decide +kernel)
    · rw [e]; exact kit_ty (show kitB "NoneType" "str" = some (isiS "NoneType" "str") by decide +kernel)
  | bl b =>
    rcases hn with e | e | e | e
    · rw [e]; exact kit_ty (show kitB "bool" "int" = some (isiS "bool" "int") by decide +kernel)
    · rw [e]; exact kit_ty (show kitB "bool" "bool" = some (isiS "bool" "bool") by decide +kernel)
    · rw [e]; exact kit_ty (show kitB "bool" "tuple" = some (isiS "bool" "tuple") by decide +kernel)
    · rw [e]; exact kit_ty (show kitB "bool" "str" = some (isiS "bool" "str") by decide +kernel)
  | int i =>
    rcases hn with e | e | e | e
    · rw [e]; exact kit_ty (show kitB "int" "int" = some (isiS "int" "int") by decide +kernel)
    · rw [e]; exact kit_ty (show kitB "int" "bool" = some (isiS "int" "bool") by decide +kernel)
    · rw [e]; exact kit_ty (show kitB "int" "tuple" = some (isiS "int" "tuple") by decide +kernel)
    · rw [e]; exact kit_ty (show kitB "int" "str" = some (isiS "int" "str") by decide +kernel)
  | str x h =>
    rcases hn with e | e | e | e
    · rw [e]; exact kit_ty (show kitB "str" "int" = some (isiS "str" "int") by decide +kernel)
    · rw [e]; exact kit_ty (show kitB "str" "bool" = some (isiS "str" "bool") by decide +kernel)
    · rw [e]; exact kit_ty (show kitB "str" "tuple" = some (isiS "str" "tuple") by decide +kernel)
    · rw [e]; exact kit_ty (show kitB "str" "str" = some (isiS "str" "str") by decide +kernel)
  | tup h1 h2 =>
    rcases hn with e | e | e | e
    · rw [e]; exact kit_ty (show kitB "tuple" "int" = some (isiS "tuple" "int") by decide +kernel)
    · rw [e]; exact kit_ty (show kitB "tuple" "bool" = some (isiS "tuple" "bool") by decide +kernel)
    · rw [e]; exact kit_ty (show kitB "tuple" "tuple" = some (isiS "tuple" "tuple") by decide +kernel)
    · rw [e]; exact kit_ty (show kitB "tuple" "str" = some (isiS "tuple" "str") by decide +kernel)

/-! ### a def's promise, its call -/
/-- the arguments -/
structure AR (ρ : Option Addr) (K : PySem.W.Frag) (T : Tb) (H : Hp) (vs : List V) (xs : List Val) : Prop where
  rv : RVs ρ K H H vs xs
  nm : ∀ x ∈ xs, ¬ x.mut
  live : Live ρ H
  tab : Tabs T H
def spD (K : PySem.W.Frag) (T : Tb) (n : Nat) (S : DF) : Sp := fun vs H Q _ => ∃ ρ xs P, AR ρ K T H vs xs ∧ xs.length = n ∧ S xs P ∧ ∀ v H' x, P x → Ext ρ T H H' → RV ρ K H H' v x → Q v H'
theorem rd_nm (x : Val) : ¬ x.rd.mut := by cases x <;> exact fun h => h
theorem RVs.length {K : PySem.W.Frag} {Hs H : Hp} {vs : List V} {xs : List Val} (r : RVs ρ K Hs H vs xs) : vs.length = xs.length := Paired.length r
theorem pd_call {x : Str} {p : Pos} {k m : Nat} {f : Addr} {fd : FuncData} {ps : List Str} {S : DF} {d : DA} (F : FnOk X.prog X.w X.K X.mg X.base CX0 k f fd ps (spD X.K T m S)) (hr : Room k X.A) (hg : Gl X x) (hm : X.mg x = some (.ref f)) (hk : PySem.W.keepIn X.K (.ref f) = true) (hb : Binds X.K fd ps [])
    (ha : PA X (a :: es) (liA m ρ X.K T H0 d)) (hdb : (x == ("__debug__" : Str)) = false := by decide) (he : starEach (a :: es) X.env = (false, eval a X.env) :: starEach es X.env := by rfl) (hpl : (backTo pos (starEach es X.env)).any (·.1) = false := by rfl) :
    PE X (.Call (.Name x p) (a :: es) [] pos) (liE ρ X.K T H0 (dCall S d)) :=
  PEw (pe_call F hr hg hm hk hb .nil pass0 ha hdb he hpl) fun σ H Q ⟨e, P, q, p, k⟩ => ⟨e, _, q, p, fun vs H1 xs hx e1 r1 hl => by
    show spD X.K T m S (vs ++ []) H1 Q E0
    rw [List.append_nil]
    refine ⟨ρ, xs.map Val.rd, P, ⟨r1.rd H1, fun y hy => ?_, e1.live q.live, (q.to e1).tab⟩, ?_, hx, fun v H2 y hy e2 r2 => k v H2 y hy (e1.trans e2) (r2.back e1.fr)⟩
    · obtain ⟨z, _, rfl⟩ := List.mem_map.mp hy
      exact rd_nm z
    · rw [List.length_map, ← r1.length, hl]⟩
end

/-! ### the frame of statements -/
def MutA (σ : L2.St) (e : Sl) (a : Addr) : Prop := ∃ (i : Nat) (x : Val), e[i]? = some (some x) ∧ x.mut ∧ σ[i]? = some (some (.ref a))
structure Fm (ρ : Option Addr) (H : Hp) (σ : L2.St) (e : Sl) (H' : Hp) (σ' : L2.St) (e' : Sl) : Prop where
  kp : ∀ a o, H a = some o → some a ≠ ρ → (∀ ps, o ≠ .tbl ps) → ¬ MutA σ e a → H' a = some o
  ms : ∀ a, MutA σ' e' a → MutA σ e a ∨ Fr H a
  fr : ∀ a, Fr H' a → Fr H a
section
variable {ρ : Option Addr} {K : PySem.W.Frag} {T : Tb} {H0 H H1 H2 : Hp} {σ σ1 σ2 : L2.St} {e e1 e2 : Sl}
theorem Fm.refl : Fm ρ H σ e H σ e := ⟨fun _ _ h _ _ _ => h, fun _ h => .inl h, fun _ h => h⟩
theorem Fm.trans (a : Fm ρ H σ e H1 σ1 e1) (b : Fm ρ H1 σ1 e1 H2 σ2 e2) : Fm ρ H σ e H2 σ2 e2 where
  kp := fun c o h n m nm => b.kp c o (a.kp c o h n m nm) n m fun z => (a.ms c z).elim nm fun w => w.no h m
  ms := fun c z => (b.ms c z).elim (fun w => a.ms c w) fun w => .inr (a.fr c w)
  fr := fun c h => a.fr c (b.fr c h)
theorem Fm.of (k : Ext ρ T H H1) : Fm ρ H σ e H1 σ e := ⟨fun a o h n m _ => k.st a o h n m, fun _ h => .inl h, k.fr⟩
theorem Fm.set {v : V} {x y : Val} {i : Nat} (r : ER ρ K T H0 H σ e) (k : Ext ρ T H H1) (hv : RV ρ K H H1 v x) (ho : x.own) (hy : y = x ∨ y = x.fz) : Fm ρ H σ e H1 (σ.set i (some v)) (e.set i (some y)) where
  kp := fun a o h n m _ => k.st a o h n m
  ms := fun a ⟨j, z, hz, mz, hs⟩ => by
    by_cases hj : i = j
    · subst hj
      have hi : i < e.length := by
        have := (List.getElem?_eq_some_iff.mp hz).1
        rwa [List.length_set] at this
      rw [List.getElem?_set_self hi] at hz
      cases hz
      rw [List.getElem?_set_self (by rw [r.len]; exact hi)] at hs
      cases hs
      have xl : x.lk := by
        rcases hy with rfl | rfl
        · exact mz.to
        · exact fz_lk mz.to
      obtain ⟨b, eb, hb⟩ := fresh_addr ho xl hv
      cases eb
      exact .inr hb
    · rw [List.getElem?_set_ne hj] at hz hs
      exact .inl ⟨j, z, hz, mz, hs⟩
  fr := k.fr
theorem Fm.mutate {i : Nat} {p : Addr} {o u : HO} {x y : Val} (hi : e[i]? = some (some x)) (hm : x.mut) (hs : σ[i]? = some (some (.ref p))) (hp : H p = some o) (my : y.mut) (nt : ∀ ps, u ≠ .tbl ps) : Fm ρ H σ e (upd H p u) σ (e.set i (some y)) where
  kp := fun a w h n m nm => by
    rw [upd_ne fun z => nm (by rw [z]; exact ⟨i, x, hi, hm, hs⟩)]
    exact h
  ms := fun a ⟨j, z, hz, mz, hs'⟩ => by
    by_cases hj : i = j
    · subst hj
      exact .inl ⟨i, x, hi, hm, hs'⟩
    · rw [List.getElem?_set_ne hj] at hz
      exact .inl ⟨j, z, hz, mz, hs'⟩
  fr := fun a h => by
    by_cases ha : a = p
    · rw [ha] at h
      obtain ⟨ps, z⟩ := h _ upd_same
      exact absurd z (nt ps)
    · exact fun w e => h w (by rw [upd_ne ha]; exact e)
end
/-- a statement's lift -/
def liS (ρ : Option Addr) (K : PySem.W.Frag) (T : Tb) (H0 : Hp) (d : DS) : TS := fun D σ H => ∃ e B, ER ρ K T H0 H σ e ∧ d B e ∧
  (∀ σ' H' e', B.nx e' → ER ρ K T H0 H' σ' e' → Fm ρ H σ e H' σ' e' → D.nx σ' H') ∧ (∀ v H' x, B.rt x → Ext ρ T H0 H' → RV ρ K H0 H' v x → D.rt v H') ∧
  (∀ σ' H' e', B.bk e' → ER ρ K T H0 H' σ' e' → Fm ρ H σ e H' σ' e' → D.bk σ' H') ∧ ∀ σ' H' e', B.ct e' → ER ρ K T H0 H' σ' e' → Fm ρ H σ e H' σ' e' → D.ct σ' H'
section
variable {X : Cx} {ρ : Option Addr} {T : Tb} {H0 : Hp} {st : Stmt} {rest sts sts2 : List Stmt} {a b c : Expr} {pos : Pos} {da db : DE} {d d2 : DS} {dt : DT}
theorem psd_nil : PSs X [] (liS ρ X.K T H0 sNext) := PSsw pss_nil fun D σ H ⟨e, B, r, p, k1, _⟩ => k1 σ H e p r .refl
theorem psd_cons (h1 : PS X st (liS ρ X.K T H0 d)) (h2 : PSs X rest (liS ρ X.K T H0 d2)) : PSs X (st :: rest) (liS ρ X.K T H0 (sSeq d d2)) :=
  PSsw (pss_cons h1 h2) fun D σ H ⟨e, B, r, p, k1, k2, k3, k4⟩ => ⟨e, { B with nx := d2 B }, r, p, fun σ1 H1 e1 q r1 f1 =>
    ⟨e1, B, r1, q, fun σ' H' e' h r' f' => k1 σ' H' e' h r' (f1.trans f'), k2, fun σ' H' e' h r' f' => k3 σ' H' e' h r' (f1.trans f'), fun σ' H' e' h r' f' => k4 σ' H' e' h r' (f1.trans f')⟩, k2, k3, k4⟩
theorem psd_one (h1 : PS X st (liS ρ X.K T H0 d)) : PSs X [st] (liS ρ X.K T H0 d) := pss_one h1
theorem psd_never : PSs X sts (liS ρ X.K T H0 sNever) := PSsw pss_never fun D σ H ⟨e, B, r, p, _⟩ => p.elim
theorem psd_never1 : PS X st (liS ρ X.K T H0 sNever) := PSw ps_never fun D σ H ⟨e, B, r, p, _⟩ => p.elim
theorem psd_ret (h : PE X a (liE ρ X.K T H0 da)) : PS X (.Return (some a) pos) (liS ρ X.K T H0 (sRet da)) :=
  PSw (ps_ret h) fun D σ H ⟨e, B, r, p, k1, k2, _⟩ => ⟨e, B.rt, r, p, fun v H' x hx e1 r1 => k2 v H' x hx (r.ext.trans e1) (r1.back r.ext.fr)⟩
theorem psd_retV {i : Nat} (h : PE X a (tVar i)) : PS X (.Return (some a) pos) (liS ρ X.K T H0 (sRetV i)) :=
  PSw (ps_ret h) fun D σ H ⟨e, B, r, ⟨x, hx, ho, p⟩, k1, k2, _⟩ => by
    obtain ⟨v, h1, h2, _⟩ := r.sl i x hx
    exact ⟨v, h1, k2 v H x p r.ext h2⟩
theorem psd_if (hc : PT X c (liT ρ X.K T H0 dt)) (h1 : PSs X sts (liS ρ X.K T H0 d)) (h2 : PSs X sts2 (liS ρ X.K T H0 d2)) : PS X (.If c sts sts2 pos) (liS ρ X.K T H0 (sIf dt d d2)) :=
  PSw (ps_if hc h1 h2) fun D σ H ⟨e, B, r, p, k1, k2, k3, k4⟩ => ⟨e, _, r, p, fun b H1 hb e1 => by
    have go : ∀ dd : DS, dd B e → liS ρ X.K T H0 dd D σ H1 := fun dd hd => ⟨e, B, r.to e1, hd, fun σ' H' e' h r' f' => k1 σ' H' e' h r' ((Fm.of e1).trans f'), k2, fun σ' H' e' h r' f' => k3 σ' H' e' h r' ((Fm.of e1).trans f'), fun σ' H' e' h r' f' => k4 σ' H' e' h r' ((Fm.of e1).trans f')⟩
    cases b with
    | true => exact go d hb
    | false => exact go d2 hb⟩
theorem psd_set {i : Nat} (h : PS X st (tAsg (liE ρ X.K T H0 da) (gName i))) : PS X st (liS ρ X.K T H0 (sSet da i)) :=
  PSw h fun D σ H ⟨e, B, r, p, k1, _⟩ => ⟨e, _, r, p, fun v H1 x ⟨ho, hx⟩ e1 r1 => k1 _ H1 _ hx (r.set e1 r1 ho (.inl rfl) i) (.set r e1 r1 ho (.inl rfl))⟩
theorem psd_setF {i : Nat} (h : PS X st (tAsg (liE ρ X.K T H0 da) (gName i))) : PS X st (liS ρ X.K T H0 (sSetF da i)) :=
  PSw h fun D σ H ⟨e, B, r, p, k1, _⟩ => ⟨e, _, r, p, fun v H1 x ⟨ho, hx⟩ e1 r1 => k1 _ H1 _ hx (r.set e1 r1 ho (.inr rfl) i) (.set r e1 r1 ho (.inr rfl))⟩
theorem psd_aug {i : Nat} (h : PS X st (tAug i (liE ρ X.K T H0 da) (ipI fun i j => i + j))) : PS X st (liS ρ X.K T H0 (sAug i da)) :=
  PSw h fun D σ H ⟨e, B, r, ⟨m, hm, p⟩, k1, _⟩ => by
    obtain ⟨v, h1, h2, _⟩ := r.sl i _ hm
    exact ⟨v, h1, e, _, r, p, fun w H1 x ⟨j, ex, hx⟩ e1 r1 => by
      subst ex
      exact ⟨m, j, rv_int h2, rv_int r1, k1 _ H1 _ hx (r.set e1 (x := .d (.int (m + j))) (RD.int _) trivial (.inl rfl) i) (.set r e1 (x := .d (.int (m + j))) (RD.int _) trivial (.inl rfl))⟩⟩
/-- xs.append(e) -/
theorem psd_app {i : Nat} (h : PS X st (tDrop (tBM X.K "list" rAppend (tVar i) (tCons (liE ρ X.K T H0 da) tNil)))) : PS X st (liS ρ X.K T H0 (sApp i da)) :=
  PSw h fun D σ H ⟨e, B, r, ⟨xs, hi, hz, p⟩, k1, _⟩ => by
    obtain ⟨v, h1, h2, _⟩ := r.sl i _ hi
    obtain ⟨q, vs, rfl, nρ, h0, hq, hr⟩ := id h2
    refine ⟨_, h1, .inl ⟨rfl, vs, SqL.of hq⟩, e, _, r, p, fun w H1 x ⟨dd, ex, hx⟩ e1 r1 => ?_⟩
    subst ex
    have r' := r.to e1
    obtain ⟨v', h1', h2', _⟩ := r'.sl i _ hi
    rw [h1] at h1'
    cases h1'
    obtain ⟨q', vs', eq', _, _, hq', hr'⟩ := id h2'
    cases eq'
    refine ⟨q, vs', w, rfl, rfl, hq', by rw [hr'.length, sizeLine_eq]; omega, ?_⟩
    have rd : RD X.K H1 w dd := r1
    refine k1 _ _ _ hx (r'.mutate hi trivial h1 hq' (.inl ⟨_, rfl⟩) (fun tk n1 n2 => ⟨q, _, rfl, n1, n2, upd_same, (hr'.append (.cons rd .nil)).keep tk⟩) trivial) ((Fm.of e1).trans (Fm.mutate hi trivial h1 hq' trivial fun _ z => nomatch z))
theorem psd_ext {i : Nat} (h : PS X st (tDrop (tBM X.K "list" rExtend (tVar i) (tCons (liE ρ X.K T H0 da) tNil)))) : PS X st (liS ρ X.K T H0 (sExt i da)) :=
  PSw h fun D σ H ⟨e, B, r, ⟨xs, hi, hz, p⟩, k1, _⟩ => by
    obtain ⟨v, h1, h2, _⟩ := r.sl i _ hi
    obtain ⟨q, vs, rfl, nρ, h0, hq, hr⟩ := id h2
    refine ⟨_, h1, .inl ⟨rfl, vs, SqL.of hq⟩, e, _, r, p, fun w H1 x ⟨ys, hy, hyz, hx⟩ e1 r1 => ?_⟩
    have r' := r.to e1
    obtain ⟨v', h1', h2', _⟩ := r'.sl i _ hi
    rw [h1] at h1'
    cases h1'
    obtain ⟨q', vs', eq', _, _, hq', hr'⟩ := id h2'
    cases eq'
    obtain ⟨b, ws, rfl, _, hb, hr2⟩ := rv_lst r1 hy
    refine ⟨q, b, vs', ws, rfl, rfl, hq', hb, by rw [hr'.length, hr2.length, sizeLine_eq]; omega, ?_⟩
    refine k1 _ _ _ hx (r'.mutate hi trivial h1 hq' (.inl ⟨_, rfl⟩) (fun tk n1 n2 => ⟨q, _, rfl, n1, n2, upd_same, (hr'.append hr2).keep tk⟩) trivial) ((Fm.of e1).trans (Fm.mutate hi trivial h1 hq' trivial fun _ z => nomatch z))
/-- a, b = x, y with plain names -/
theorem psd_par {i j : Nat} (hij : i ≠ j) (h : PS X st (tPar i j (tCons (liE ρ X.K T H0 da) (tCons (liE ρ X.K T H0 db) tNil)))) : PS X st (liS ρ X.K T H0 (sPar i j da db)) :=
  PSw h fun D σ H ⟨e, B, r, p, k1, _⟩ => ⟨e, _, r, p, fun v H1 x hx e1 r1 => ⟨e, _, r.to e1, hx, fun w H2 y ⟨o1, o2, hp⟩ e2 r2 => ⟨v, w, rfl, by
    have ra : ER ρ X.K T H0 H1 (σ.set i (some v)) (e.set i (some x)) := r.set e1 r1 o1 (.inl rfl) i
    have fa : Fm ρ H σ e H1 (σ.set i (some v)) (e.set i (some x)) := .set r e1 r1 o1 (.inl rfl)
    exact k1 _ H2 _ hp (ra.set e2 r2 o2 (.inl rfl) j) (fa.trans (.set ra e2 r2 o2 (.inl rfl)))⟩⟩⟩
theorem psd_parF {i j : Nat} (hij : i ≠ j) (h : PS X st (tPar i j (tCons (liE ρ X.K T H0 da) (tCons (liE ρ X.K T H0 db) tNil)))) : PS X st (liS ρ X.K T H0 (sParF i j da db)) :=
  PSw h fun D σ H ⟨e, B, r, p, k1, _⟩ => ⟨e, _, r, p, fun v H1 x hx e1 r1 => ⟨e, _, r.to e1, hx, fun w H2 y ⟨o1, o2, hp⟩ e2 r2 => ⟨v, w, rfl, by
    have ra : ER ρ X.K T H0 H1 (σ.set i (some v)) (e.set i (some x.fz)) := r.set e1 r1 o1 (.inr rfl) i
    have fa : Fm ρ H σ e H1 (σ.set i (some v)) (e.set i (some x.fz)) := .set r e1 r1 o1 (.inr rfl)
    exact k1 _ H2 _ hp (ra.set e2 r2 o2 (.inr rfl) j) (fa.trans (.set ra e2 r2 o2 (.inr rfl)))⟩⟩⟩

/-! ### targets -/
mutual
def rawG (K : PySem.W.Frag) : Tg → TG
  | .n i => gName i
  | .t ts => gTup K ts.len (rawGs K ts)
def rawGs (K : PySem.W.Frag) : Tgs → TGs
  | .nil => gNil
  | .cons t ts => gCons (rawG K t) (rawGs K ts)
end
/-- what a target leaves: slots outside of it are as they were -/
structure Tgd (vs : List Nat) (σ σ' : L2.St) : Prop where
  out : ∀ i, i ∉ vs → σ'[i]? = σ[i]?
  len : σ'.length = σ.length
mutual
theorem rawG_ok {ρ : Option Addr} {K : PySem.W.Frag} {T : Tb} {H0 : Hp} {H : Hp} : ∀ (g : Tg) (v : V) (d : PyData) (σ : L2.St) (e : Sl) (P : Sl → Prop) (Q : L2.St → Hp → Prop), ER ρ K T H0 H σ e → RD K H v d → dG g d e P →
    (∀ σ' e', P e' → ER ρ K T H0 H σ' e' → Fm ρ H σ e H σ' e' → Tgd g.ds σ σ' → Q σ' H) → rawG K g v σ H Q
  | .n i, v, d, σ, e, P, Q, r, hd, p, k => by
    have p' : P (e.set i (some (.d d))) := by simpa only [dG] using p
    simp only [rawG]
    refine k _ _ p' (r.set .refl (x := .d d) hd trivial (.inl rfl) i) (.set r (T := T) .refl (x := .d d) hd trivial (.inl rfl)) ⟨fun j hj => ?_, by rw [List.length_set]⟩
    rw [List.getElem?_set_ne fun z => hj (by rw [← z]; simp only [Tg.ds, List.mem_singleton])]
  | .t ts, v, d, σ, e, P, Q, r, hd, p, k => by
    obtain ⟨xs, rfl, hl, p'⟩ : ∃ xs, d = .tuple xs ∧ xs.length = ts.len ∧ dGs ts xs e P := by simpa only [dG] using p
    cases hd with
    | @tup a vs _ hT hr =>
      simp only [rawG]
      exact ⟨a, vs, rfl, hT, by rw [hr.length]; exact hl, rawGs_ok ts vs xs σ e P Q r hr p' fun σ' e' h1 h2 h3 h4 => k σ' e' h1 h2 h3 (by simpa only [Tg.ds] using h4)⟩
theorem rawGs_ok {ρ : Option Addr} {K : PySem.W.Frag} {T : Tb} {H0 : Hp} {H : Hp} : ∀ (g : Tgs) (vs : List V) (ds : List PyData) (σ : L2.St) (e : Sl) (P : Sl → Prop) (Q : L2.St → Hp → Prop), ER ρ K T H0 H σ e → RDs K H vs ds → dGs g ds e P →
    (∀ σ' e', P e' → ER ρ K T H0 H σ' e' → Fm ρ H σ e H σ' e' → Tgd g.ds σ σ' → Q σ' H) → rawGs K g vs σ H Q
  | .nil, vs, ds, σ, e, P, Q, r, hd, p, k => by
    obtain ⟨rfl, p'⟩ : ds = [] ∧ P e := by simpa only [dGs] using p
    cases hd
    simp only [rawGs]
    exact ⟨rfl, k σ e p' r .refl ⟨fun _ _ => rfl, rfl⟩⟩
  | .cons t ts, vs, ds, σ, e, P, Q, r, hd, p, k => by
    obtain ⟨x, rr, rfl, p'⟩ : ∃ x rr, ds = x :: rr ∧ dG t x e fun e' => dGs ts rr e' P := by simpa only [dGs] using p
    cases hd with
    | @cons v vr _ _ h1 h2 =>
      simp only [rawGs]
      refine ⟨v, vr, rfl, rawG_ok t v x σ e _ _ r h1 p' fun σ1 e1 q1 r1 f1 t1 => ?_⟩
      refine rawGs_ok ts vr rr σ1 e1 P Q r1 h2 q1 fun σ2 e2 q2 r2 f2 t2 => k σ2 e2 q2 r2 (f1.trans f2) ⟨fun i hi => ?_, t2.len.trans t1.len⟩
      have hi' : i ∉ t.ds ++ ts.ds := by simpa only [Tgs.ds] using hi
      rw [t2.out i fun z => hi' (List.mem_append_right _ z), t1.out i fun z => hi' (List.mem_append_left _ z)]
end
/-- target = e: a tuple unpacked -/
theorem psd_asg {g : Tg} (h : PS X st (tAsg (liE ρ X.K T H0 da) (rawG X.K g))) : PS X st (liS ρ X.K T H0 (sAsg da g)) :=
  PSw h fun D σ H ⟨e, B, r, p, k1, _⟩ => ⟨e, _, r, p, fun v H1 x ⟨dd, ex, hx⟩ e1 r1 => by
    subst ex
    exact rawG_ok g v dd σ e _ _ (r.to e1) r1 hx fun σ' e' q r' f' _ => k1 _ H1 _ q r' ((Fm.of e1).trans f')⟩

/-! ### for -/
def KpN (ρ : Option Addr) (N : Addr → Prop) (H H' : Hp) : Prop := ∀ a o, H a = some o → some a ≠ ρ → (∀ ps, o ≠ .tbl ps) → ¬ N a → H' a = some o
/-- what a walk gives, turn by turn -/
def WalkD (ρ : Option Addr) (K : PySem.W.Frag) (N : Addr → Prop) (J : It) (H1 : Hp) (xs : List PyData) : Prop :=
  Walk J xs.length (KpN ρ N H1) (fun i Ha v Hb => (∀ a o, Ha a = some o → Hb a = some o) ∧ ∃ d, xs[i]? = some d ∧ RD K Hb v d)
def liF (ρ : Option Addr) (K : PySem.W.Frag) (T : Tb) (H0 : Hp) (di : DI) : TI := fun σ H R => ∃ e P, ER ρ K T H0 H σ e ∧ di e P ∧ ∀ J H' xs, P xs → Ext ρ T H H' → WalkD ρ K (MutA σ e) J H' xs → R J H'
theorem PIw {tg it : Expr} {t t' : TI} (h : PI X tg it t) (w : ∀ σ H Q, t' σ H Q → t σ H Q) : PI X tg it t' := ⟨fun pins s σ H Q I q => h.run pins s σ H Q I (w σ H Q q)⟩
theorem psd_for {tg it : Expr} {di : DI} {g : Tg} (hp : PassesOwn (model X.prog X.w) X.A X.env X.xe) (hc : X.calm = true) (hi : PI X tg it (liF ρ X.K T H0 di)) (hg : PG X tg (rawG X.K g)) (hb : PSs X sts (liS ρ X.K T H0 d))
    (hs : ∀ x, foldedSetIterable it X.env x = pure x := by intro _; rfl) : PS X (.For tg it sts [] pos) (liS ρ X.K T H0 (sFor di g d)) :=
  PSw (ps_for hp hc hi hg hb hs) fun D σ H ⟨e, B, r, p, k1, k2, k3, k4⟩ => ⟨e, _, r, p, fun J H1 xs hx e1 w => by
    refine for_it w (fun i σ' H' => ∃ e', forLoop g d B (xs.drop i) e' ∧ ER ρ X.K T H0 H' σ' e' ∧ Fm ρ H1 σ e H' σ' e') ⟨e, hx, r.to e1, .refl⟩ (fun i σ' H' hi ⟨e', _, _, f⟩ => f.kp) (fun i v σ' Ha Hb hi ⟨e', q, r', f⟩ ⟨hk, dd, hd, rd⟩ => ?_) (fun σ' H' ⟨e', q, r', f⟩ => ?_)
    · have ed : xs.drop i = dd :: xs.drop (i + 1) := by
        obtain ⟨h1, h2⟩ := List.getElem?_eq_some_iff.mp hd
        rw [List.drop_eq_getElem_cons h1, h2]
      rw [ed] at q
      have q' : dG g dd e' fun e'' => d { nx := forLoop g d B (xs.drop (i + 1)), rt := B.rt, bk := B.nx, ct := forLoop g d B (xs.drop (i + 1)) } e'' := q
      have eb : Ext ρ T Ha Hb := .of hk
      have fb : Fm ρ H1 σ e Hb σ' e' := f.trans (Fm.of eb)
      refine rawG_ok g v dd σ' e' _ _ (r'.to eb) rd q' fun σ2 e2 q2 r2 f2 _ => ?_
      refine ⟨e2, _, r2, q2, fun σ3 H3 e3 q3 r3 f3 => ⟨e3, q3, r3, (fb.trans f2).trans f3⟩, k2, fun σ3 H3 e3 q3 r3 f3 => ?_, fun σ3 H3 e3 q3 r3 f3 => ⟨e3, q3, r3, (fb.trans f2).trans f3⟩⟩
      exact k1 σ3 H3 e3 q3 r3 (((Fm.of e1).trans (fb.trans f2)).trans f3)
    · rw [List.drop_length] at q
      exact k1 σ' H' e' q r' ((Fm.of e1).trans f)⟩
/-- reads that stay -/
theorem kp_tup {K : PySem.W.Frag} {N : Addr → Prop} {H H' : Hp} (k : KpN ρ N H H') (l : Live ρ H) (hN : ∀ a vs, N a → H a ≠ some (.tup vs) ∧ ∀ o u, H a ≠ some (.frz o u)) : ∀ a vs, SqT K H a vs → SqT K H' a vs := fun a vs h => by
  rcases h with (h | ⟨o, h⟩) | h
  · exact .inl (.inl (k a _ h (l.ne h fun _ z => nomatch z) (fun _ z => nomatch z) fun z => (hN a vs z).1 h))
  · exact .inl (.inr ⟨o, k a _ h (l.ne h fun _ z => nomatch z) (fun _ z => nomatch z) fun z => (hN a vs z).2 _ _ h⟩)
  · exact .inr h
theorem mutA_N {K : PySem.W.Frag} {H0 H : Hp} {σ : L2.St} {e : Sl} (r : ER ρ K T H0 H σ e) : ∀ a (vs : List V), MutA σ e a → H a ≠ some (.tup vs) ∧ ∀ o u, H a ≠ some (.frz o u) := fun a vs ⟨i, x, hx, hm, hs⟩ => by
  obtain ⟨v, h1, h2, _⟩ := r.sl i x hx
  rw [hs] at h1
  cases h1
  cases x with
  | o xs =>
    obtain ⟨b, ws, eb, _, _, hb, _⟩ := h2
    cases eb
    rw [hb]
    exact ⟨by simp, by simp⟩
  | dn n f =>
    obtain ⟨b, ws, eb, _, _, hb, _, _⟩ := h2
    cases eb
    rw [hb]
    exact ⟨by simp, by simp⟩
  | _ => exact hm.elim
theorem walkD_tup {K : PySem.W.Frag} {N : Addr → Prop} {H1 : Hp} {a : Addr} {vs : List V} {xs : List PyData} (l : Live ρ H1) (hN : ∀ a vs, N a → H1 a ≠ some (.tup vs) ∧ ∀ o u, H1 a ≠ some (.frz o u)) (hT : SqT K H1 a vs) (hr : RDs K H1 vs xs) : WalkD ρ K N (Itt K a) H1 xs := by
  unfold WalkD
  rw [← hr.length]
  refine (walk_tup (K := K) (a := a) (xs := vs)).mono (fun H' k => kp_tup k l hN a vs hT) fun i Ha v Hb hi k y => ?_
  obtain ⟨e, hv⟩ := y
  subst e
  obtain ⟨d, h1, h2⟩ := hr.get' hv
  exact ⟨fun _ _ h => h, d, h1, RD.keep (kp_tup k l hN) _ _ h2⟩
theorem walkD_list {K : PySem.W.Frag} {N : Addr → Prop} {H1 : Hp} {a : Addr} {vs : List V} {xs : List PyData} (l : Live ρ H1) (hN : ∀ a vs, N a → H1 a ≠ some (.tup vs) ∧ ∀ o u, H1 a ≠ some (.frz o u)) (ha : H1 a = some (.lst vs)) (nρ : some a ≠ ρ) (na : ¬ N a) (hr : RDs K H1 vs xs) : WalkD ρ K N (Itl K a) H1 xs := by
  unfold WalkD
  rw [← hr.length]
  refine (walk_list (K := K) (a := a) (xs := vs)).mono (fun H' k => SqL.of (k a _ ha nρ (fun _ z => nomatch z) na)) fun i Ha v Hb hi k y => ?_
  obtain ⟨e, hv⟩ := y
  subst e
  obtain ⟨d, h1, h2⟩ := hr.get' hv
  exact ⟨fun _ _ h => h, d, h1, RD.keep (kp_tup k l hN) _ _ h2⟩
theorem walkD_range {K : PySem.W.Frag} {N : Addr → Prop} {H1 : Hp} {n : Nat} : WalkD ρ K N (Itr 0 n) H1 ((List.range n).map fun i => PyData.int (i : Nat)) := by
  unfold WalkD
  rw [List.length_map, List.length_range]
  refine (walk_range (lo := 0) (n := n)).mono (fun _ _ => trivial) fun i Ha v Hb hi k y => ?_
  obtain ⟨e, hv⟩ := y
  subst e hv
  refine ⟨fun _ _ h => h, .int (i : Nat), by rw [List.getElem?_map, List.getElem?_range hi]; rfl, ?_⟩
  show RD K Hb (.int (0 + (i : Int))) (.int (i : Int))
  rw [Int.zero_add]
  exact .int _
theorem pif_tup {tg : Expr} (h : PE X a (liE ρ X.K T H0 da)) : PI X tg a (liF ρ X.K T H0 (diT da)) :=
  PIw (pi_tup h) fun σ H R ⟨e, P, r, p, k⟩ => ⟨e, _, r, p, fun v H1 x ⟨xs, ex, hx⟩ e1 r1 => by
    subst ex
    obtain ⟨b, vs, rfl, hT, hr⟩ := rv_tup r1
    exact ⟨b, rfl, ⟨vs, hT⟩, k _ H1 xs hx e1 (walkD_tup (e1.live r.live) (mutA_N (r.to e1)) hT hr)⟩⟩
theorem pif_range {tg : Expr} {p : Pos} (hg : Gl X "range") (hm : X.mg "range" = none) (h : PE X a (liE ρ X.K T H0 da)) (hs : starEach [a] X.env = [(false, eval a X.env)] := by rfl) : PI X tg (.Call (.Name "range" p) [a] [] pos) (liF ρ X.K T H0 (diR da)) :=
  PIw (pi_range1 hg hm (pa_cons h pa_nil hs) hs) fun σ H R ⟨e, P, r, p, k⟩ => ⟨e, _, r, p, fun v H1 x ⟨n, ex, h0, hn, hx⟩ e1 r1 => by
    subst ex
    have ev := rv_int r1
    subst ev
    exact ⟨n, rfl, by omega, by omega, k _ H1 _ hx e1 walkD_range⟩⟩
end
end Bx
/-! Bx5: zip of lists and tuples in any mix, comprehensions, max of three, sorted, d.update, xs[::2] -/
namespace Bx
open PySem PySem.Spec PyProof.Rows L2
open LamX (Tabs)
/-! ### zip -/
def SqK (k : Bool) (K : PySem.W.Frag) (H : Hp) (a : Addr) (xs : List V) : Prop := match k with
  | true => SqL K H a xs
  | false => SqT K H a xs
def ItK (k : Bool) (h : Heap) (it a : Addr) (i : Nat) : Prop := match k with
  | true => h.IsListIter it a i
  | false => h.IsTupleIter it a i
def SeK (k : Bool) (h : Heap) (a : Addr) (its : Array Value) : Prop := match k with
  | true => h.IsList a its
  | false => h.IsTuple a its
def obK (k : Bool) (a : Addr) : Obj := match k with
  | true => { cls := .type "list_iterator", data := .fields #[.ref a, .int 0 0] }
  | false => { cls := .type "tuple_iterator", data := .fields #[.ref a, .int 0 0] }
theorem draws_k {prog : Program} {w : World} {A : Around} (hh : A.handled = none) (k : Bool) (it a : Addr) (hne : a ≠ it) (items : Array Value) : Draws prog w A it [it, a] items.size (fun i v => items[i]? = some v) (fun i h => ItK k h it a i ∧ SeK k h a items) := by
  cases k with
  | true => exact Draws.list hh it a hne items
  | false => exact Draws.tuple hh it a hne items
theorem begins_k (k : Bool) (a : Addr) (items : Array Value) : Begins (.ref a) (obK k a) fun h => SeK k h a items := by
  cases k with
  | true => exact begins_list a items
  | false => exact begins_tuple a items
theorem itK_at {k : Bool} {h h' : Heap} {it a : Addr} {i : Nat} (st : ItK k h it a i) (e : ∀ o, h.get? it = some o → h'.get? it = some o) : ItK k h' it a i := by
  cases k with
  | true => exact Heap.IsListIter.at st e
  | false => exact Heap.IsTupleIter.at st e
theorem itK_obj {k : Bool} {h : Heap} {it a : Addr} {i : Nat} (st : ItK k h it a i) : ∃ o, h.get? it = some o ∧ ∀ v, o.data ≠ .cell v := by
  cases k with
  | true =>
    obtain ⟨o, e, _, d⟩ := st
    exact ⟨o, e, fun v z => by rw [d] at z; cases z⟩
  | false =>
    obtain ⟨o, e, _, d⟩ := st
    exact ⟨o, e, fun v z => by rw [d] at z; cases z⟩
theorem itK_new {k : Bool} {h : Heap} {it a : Addr} (e : h.get? it = some (obK k a)) : ItK k h it a 0 := by
  cases k with
  | true => exact ⟨_, e, rfl, rfl⟩
  | false => exact ⟨_, e, rfl, rfl⟩
section
variable {X : Cx} {pins : List (Addr × Obj)} {σ : L2.St} {H : Hp} {s : Shared}
theorem seqK_at {k : Bool} {a : Addr} {xs : List V} (I : Inv X pins σ H s) (h : SqK k X.K H a xs) : ∃ its : List Value, Vals xs its ∧ SeK k s.heap a its.toArray ∧ a < s.heap.objs.size := by
  cases k with
  | true =>
    obtain ⟨its, r, p, _⟩ := I.list h
    exact ⟨its, r, p.isList, p.lt⟩
  | false =>
    obtain ⟨its, r, p, _⟩ := I.tuple h
    obtain ⟨o, e, _⟩ := id p
    exact ⟨its, r, p, Heap.lt_size e⟩
end
/-- the sources at a and b stand; the items in new pairs -/
def ItZ (K : PySem.W.Frag) (k1 k2 : Bool) (a b : Addr) (xs ys : List V) : It :=
  ⟨fun i H => SqK k1 K H a xs ∧ SqK k2 K H b ys ∧ i < min xs.length ys.length,
    fun i H v H' => ∃ T x y, v = .ref T ∧ H T = none ∧ H' = upd H T (.tup [x, y]) ∧ xs[i]? = some x ∧ ys[i]? = some y,
    fun i H => SqK k1 K H a xs ∧ SqK k2 K H b ys ∧ i = min xs.length ys.length⟩
theorem turn_zipK {P : Program} {w : World} {K : PySem.W.Frag} {elts : List Expr} {kk : Nat} {tpos : Pos} {k1 k2 : Bool} {a b z TI TO i1 i2 : Addr} {xs ys : List V} (D : ZipSep2 z TI TO i1 i2 [i1, a] [i2, b]) (n1 : a ≠ i1) (n2 : b ≠ i2) :
    Turn P w K (.Tuple elts kk tpos) (ItZ K k1 k2 a b xs ys) [z, TI, TO, i1, i2] z (fun i h => IsZip h z TI TO .none ∧ IsTupOf2 h TI (.ref i1) (.ref i2) ∧ (∃ x y, IsTupOf2 h TO x y) ∧ ItK k1 h i1 a i ∧ ItK k2 h i2 b i) where
  mem := by simp
  obj := fun i h st c hc => by
    obtain ⟨hz, hTI, ⟨x, y, hTO⟩, h1, h2⟩ := st
    have e' : c = z ∨ c = TI ∨ c = TO ∨ c = i1 ∨ c = i2 := by simpa using hc
    rcases e' with q | q | q | q | q
    · rw [q]; exact ⟨_, hz, fun v q => nomatch q⟩
    · rw [q]; exact ⟨_, hTI, fun v q => nomatch q⟩
    · rw [q]; exact ⟨_, hTO, fun v q => nomatch q⟩
    · rw [q]; exact itK_obj h1
    · rw [q]; exact itK_obj h2
  keep := fun i h h' st k => by
    obtain ⟨hz, hTI, ⟨x, y, hTO⟩, h1, h2⟩ := st
    exact ⟨k z (by simp) _ hz, k TI (by simp) _ hTI, ⟨x, y, k TO (by simp) _ hTO⟩, itK_at h1 fun o q => k i1 (by simp) o q, itK_at h2 fun o q => k i2 (by simp) o q⟩
  item := by
    intro X hP hw hK hc i pins s σ H E I hf st hg
    subst hP hw hK
    obtain ⟨hz, hTI, ⟨x0, y0, hTO⟩, h1, h2⟩ := st
    obtain ⟨hqx, hqy, hlt⟩ := hg
    obtain ⟨its, rv, p, _⟩ := seqK_at I hqx
    obtain ⟨its2, rv2, p2, _⟩ := seqK_at I hqy
    have l1 := rv.length
    have l2 := rv2.length
    have hzl : z < s.heap.objs.size := Heap.lt_size hz
    have hh : X.A.in1.handled = none := I.ok.hd hc
    refine wpAny_pyNext_zipD2_item D (draws_k hh k1 i1 a n1 its.toArray) (draws_k hh k2 i2 b n2 its2.toArray) hz hTI hTO ⟨h1, p⟩ ⟨h2, p2⟩ (by rw [List.size_toArray]; omega) (by rw [List.size_toArray]; omega) fun u u2 h' tk hu hu2 z' TO' h1' h2' hT hsz hk => ?_
    obtain ⟨x, hx⟩ : ∃ x, xs[i]? = some x := ⟨xs[i]'(by omega), by simp [show i < xs.length by omega]⟩
    obtain ⟨y, hy⟩ : ∃ y, ys[i]? = some y := ⟨ys[i]'(by omega), by simp [show i < ys.length by omega]⟩
    obtain ⟨ux, hux, rux⟩ := rv.get hx
    obtain ⟨uy, huy, ruy⟩ := rv2.get hy
    have eu : u = ux := by
      have q : its[i]? = some u := by simpa using hu
      rw [hux] at q
      exact (Option.some.inj q).symm
    have eu2 : u2 = uy := by
      have q : its2[i]? = some u2 := by simpa using hu2
      rw [huy] at q
      exact (Option.some.inj q).symm
    subst eu eu2
    refine ⟨_, rfl, wpAny_letOwnedTupleGo_zip (s := { s with heap := h', toks := tk }) z' fun h'' z'' sb => ?_⟩
    have hT2 : h''.get? s.heap.objs.size = some { cls := .type "tuple", data := .seq #[u, u2] } := (sb.2 _ (Nat.ne_of_gt hzl)).trans hT
    have new : ObjOk X.prog X.w (upd H s.heap.objs.size (.tup [x, y])) h'' s.heap.objs.size (.tup [x, y]) :=
      ⟨by show 2 ≤ sizeLine; decide, [u, u2], .cons rux (.cons ruy .nil), ⟨_, hT2, rfl, _, rfl⟩⟩
    have I1 : Inv X pins σ (upd H s.heap.objs.size (.tup [x, y])) { s with heap := h'', toks := tk } :=
      I.turnedNew (t' := tk) (ch := [z, TI, TO, i1, i2]) (fun c o hb q => (sb.2 c (fun q' => hb (by simp [q']))).trans (hk c o (fun q' => hb (by simp [q'])) (fun q' => hb (by simp [q'])) (fun q' => hb (by simp [q'])) (fun q' => hb (by simp [q'])) q)) hf (Nat.le_refl _) new
    refine ⟨.ref s.heap.objs.size, _, I1, rfl, ⟨_, x, y, rfl, I.hok.fresh (Nat.le_refl _), rfl, hx, hy⟩, ⟨z'', ?_, ⟨u, u2, ?_⟩, ?_, ?_⟩, fun c hcm => ?_⟩
    · exact (sb.2 _ D.TIz).trans (hk _ _ D.TIz D.TITO D.TIi1 D.TIi2 hTI)
    · exact (sb.2 _ D.TOz).trans TO'
    · exact itK_at h1'.1 fun o q => (sb.2 _ D.zi1.symm).trans q
    · exact itK_at h2'.1 fun o q => (sb.2 _ D.zi2.symm).trans q
    · have hlt : c < s.heap.objs.size := by
        have e' : c = z ∨ c = TI ∨ c = TO ∨ c = i1 ∨ c = i2 := by simpa using hcm
        rcases e' with q | q | q | q | q
        · rw [q]; exact hzl
        · rw [q]; exact Heap.lt_size hTI
        · rw [q]; exact Heap.lt_size hTO
        · rw [q]; obtain ⟨_, e1, _⟩ := itK_obj h1; exact Heap.lt_size e1
        · rw [q]; obtain ⟨_, e2, _⟩ := itK_obj h2; exact Heap.lt_size e2
      rw [upd_ne (Nat.ne_of_lt hlt)]
      exact (hf c hcm).1
  done := by
    intro X hP hw hK hc i pins s σ H E I hf st hg
    subst hP hw hK
    obtain ⟨hz, hTI, ⟨x0, y0, hTO⟩, h1, h2⟩ := st
    obtain ⟨hqx, hqy, hend⟩ := hg
    obtain ⟨its, rv, p, _⟩ := seqK_at I hqx
    obtain ⟨its2, rv2, p2, _⟩ := seqK_at I hqy
    have l1 := rv.length
    have l2 := rv2.length
    have hh : X.A.in1.handled = none := I.ok.hd hc
    refine wpAny_pyNext_zipD2_end D (draws_k hh k1 i1 a n1 its.toArray) (draws_k hh k2 i2 b n2 its2.toArray) hz hTI hTO ⟨h1, p⟩ ⟨h2, p2⟩ (by rw [List.size_toArray]; omega) (by rw [List.size_toArray]; omega) (by rw [List.size_toArray, List.size_toArray]; omega) fun h' tk hk => ⟨rfl, I.turnedL (t' := tk) (ch := [z, TI, TO, i1, i2]) (fun c o hb q =>
      hk c o (fun q' => hb (by simp [q'])) (fun q' => hb (by simp [q'])) (fun q' => hb (by simp [q'])) (fun q' => hb (by simp [q'])) q) hf⟩
  self := fun A i s Q E st h => wpAny_pyIter_zip st.1 h
def iZipK (K : PySem.W.Frag) (ta : TA) : TI := fun σ H R => ta σ H fun vs H1 => ∃ k1 k2 a b xs ys, vs = [.ref a, .ref b] ∧ SqK k1 K H1 a xs ∧ SqK k2 K H1 b ys ∧ R (ItZ K k1 k2 a b xs ys) H1
theorem pi_zipK {X : Cx} {e e2 : Expr} {ta : TA} {p pos tpos : Pos} {elts : List Expr} {kk : Nat} (hg : Gl X "zip") (hm : X.mg "zip" = none) (ha : PA X [e, e2] ta)
    (hs : starEach [e, e2] X.env = (false, eval e X.env) :: starEach [e2] X.env := by rfl) (hpl : (backTo pos (starEach [e2] X.env)).any (·.1) = false := by rfl) :
    PI X (.Tuple elts kk tpos) (.Call (.Name "zip" p) [e, e2] [] pos) (iZipK X.K ta) := by
  refine ⟨fun pins s σ H R I h => ?_⟩
  refine Call_ (ld_blt I hg hm PyProof.Rows.boot_zip (PyProof.Rows.callWith_type1 (thn (ha.run pos pins s σ H _ I h) fun us s1 ⟨vs, H1, I1, r1, q1⟩ => ?_) hs hpl))
  obtain ⟨k1, k2, a, b, xs, ys, ex, hqx, hqy, q⟩ := q1
  subst ex
  cases r1 with
  | cons r rr =>
    cases rr with
    | cons r' rr =>
      cases rr
      cases r
      cases r'
      have fresh5 : ∀ c, c ∈ [s1.heap.objs.size + 4, s1.heap.objs.size + 2, s1.heap.objs.size + 3, s1.heap.objs.size, s1.heap.objs.size + 1] → FpOk X pins H1 c := fun c hcm => by
        have e' : c = s1.heap.objs.size + 4 ∨ c = s1.heap.objs.size + 2 ∨ c = s1.heap.objs.size + 3 ∨ c = s1.heap.objs.size ∨ c = s1.heap.objs.size + 1 := by simpa using hcm
        have hle : s1.heap.objs.size ≤ c := by
          rcases e' with z | z | z | z | z
          · rw [z]; exact Nat.le_add_right _ _
          · rw [z]; exact Nat.le_add_right _ _
          · rw [z]; exact Nat.le_add_right _ _
          · rw [z]; exact Nat.le_refl _
          · rw [z]; exact Nat.le_add_right _ _
        exact I1.fpOk hle (I1.hok.fresh hle)
      obtain ⟨its, rv, p1, la⟩ := seqK_at I1 hqx
      obtain ⟨its2, rv2, p2, lb⟩ := seqK_at I1 hqy
      refine zip_begins2 (begins_k k1 a its.toArray) (begins_k k2 b its2.toArray) p1 p2 fun h' hz hTI hTO h1 h2 hsz hk => wpAny_pyIter_zip hz ?_
      have I2 : Inv X pins σ H1 { s1 with heap := h' } := I1.kept (t' := s1.toks) hk
      exact ⟨s1.heap.objs.size + 4, [s1.heap.objs.size + 4, s1.heap.objs.size + 2, s1.heap.objs.size + 3, s1.heap.objs.size, s1.heap.objs.size + 1], _, _, H1, rfl, I2,
        turn_zipK (zip_sep2 (fun c hc => by rw [List.mem_singleton.mp hc]; exact la) (fun c hc => by rw [List.mem_singleton.mp hc]; exact lb)) (Nat.ne_of_lt la) (Nat.ne_of_lt (Nat.lt_succ_of_lt lb)), ⟨hz, hTI, ⟨_, _, hTO⟩, itK_new h1, itK_new h2⟩, fresh5, q⟩
section
variable {X : Cx} {ρ : Option Addr} {T : Tb} {H0 : Hp} {a b c : Expr} {es : List Expr} {pos : Pos} {da db dc : DE} {n : Nat}
theorem kp_sqK {K : PySem.W.Frag} {N : Addr → Prop} {H H' : Hp} {k : Bool} {a : Addr} {vs : List V} (kp : KpN ρ N H H') (l : Live ρ H) (hN : ∀ a vs, N a → H a ≠ some (.tup vs) ∧ ∀ o u, H a ≠ some (.frz o u)) (h : SqK k K H a vs)
    (hl : k = true → H a = some (.lst vs) ∧ some a ≠ ρ ∧ ¬ N a) : SqK k K H' a vs := by
  cases k with
  | true =>
    obtain ⟨h1, h2, h3⟩ := hl rfl
    exact SqL.of (kp a _ h1 h2 (fun _ z => nomatch z) h3)
  | false => exact kp_tup kp l hN a vs h
theorem zipD_len (xs ys : List PyData) : (zipD xs ys).length = min xs.length ys.length := by
  unfold zipD
  rw [List.length_zipWith]
theorem walkD_zip {K : PySem.W.Frag} {N : Addr → Prop} {H1 : Hp} {k1 k2 : Bool} {a b : Addr} {vs ws : List V} {xs ys : List PyData} (l : Live ρ H1) (hN : ∀ a vs, N a → H1 a ≠ some (.tup vs) ∧ ∀ o u, H1 a ≠ some (.frz o u))
    (h1 : SqK k1 K H1 a vs) (h2 : SqK k2 K H1 b ws) (l1 : k1 = true → H1 a = some (.lst vs) ∧ some a ≠ ρ ∧ ¬ N a) (l2 : k2 = true → H1 b = some (.lst ws) ∧ some b ≠ ρ ∧ ¬ N b) (r1 : RDs K H1 vs xs) (r2 : RDs K H1 ws ys) :
    WalkD ρ K N (ItZ K k1 k2 a b vs ws) H1 (zipD xs ys) := by
  unfold WalkD
  rw [zipD_len, ← r1.length, ← r2.length]
  refine ⟨fun i H' hi k => ⟨kp_sqK k l hN h1 l1, kp_sqK k l hN h2 l2, hi⟩, fun H' k => ⟨kp_sqK k l hN h1 l1, kp_sqK k l hN h2 l2, rfl⟩, fun i Ha v Hb hi k y => ?_⟩
  obtain ⟨t, x, y', rfl, ht, rfl, hx, hy⟩ := y
  obtain ⟨d, e1, e2⟩ := r1.get' hx
  obtain ⟨d', e3, e4⟩ := r2.get' hy
  have up : ∀ a o, Ha a = some o → upd Ha t (.tup [x, y']) a = some o := fun a o h => by
    rw [upd_ne (ne_of_none h ht)]
    exact h
  have tk : ∀ a vs, SqT K H1 a vs → SqT K (upd Ha t (.tup [x, y'])) a vs := fun a vs h => by
    rcases kp_tup k l hN a vs h with (h | ⟨o, h⟩) | h
    · exact .inl (.inl (up _ _ h))
    · exact .inl (.inr ⟨o, up _ _ h⟩)
    · exact .inr h
  refine ⟨up, .tuple [d, d'], ?_, .tup (.inl (.inl upd_same)) (.cons (RD.keep tk _ _ e2) (.cons (RD.keep tk _ _ e4) .nil))⟩
  unfold zipD
  rw [List.getElem?_zipWith, e1, e3]
/-- a name's list or tuple that a loop leaves -/
theorem fix_at {K : PySem.W.Frag} {H : Hp} {σ : L2.St} {e : Sl} {i : Nat} {x : Val} {xs : List PyData} (r : ER ρ K T H0 H σ e) (hi : e[i]? = some (some x)) (hx : x.fix = some xs) :
    ∃ a vs k, σ[i]? = some (some (.ref a)) ∧ SqK k K H a vs ∧ RDs K H vs xs ∧ (k = true → H a = some (.lst vs) ∧ some a ≠ ρ ∧ ¬ MutA σ e a) := by
  obtain ⟨v, h1, h2, _⟩ := r.sl i x hi
  cases x with
  | l ys =>
    cases hx
    obtain ⟨a, vs, rfl, nρ, ha, hr⟩ := h2
    refine ⟨a, vs, true, h1, SqL.of ha, hr, fun _ => ⟨ha, nρ, fun ⟨j, y, hy, hm, hs⟩ => ?_⟩⟩
    by_cases hj : j = i
    · subst hj
      rw [hi] at hy
      cases hy
      exact hm
    · exact r.ap j i y _ _ hj hy hi hm trivial hs h1
  | d d =>
    cases d with
    | tuple ys =>
      cases hx
      obtain ⟨a, vs, rfl, hT, hr⟩ := rv_tup h2
      exact ⟨a, vs, false, h1, hT, hr, fun z => by cases z⟩
    | _ => cases hx
  | _ => cases hx
theorem pif_zip {p tpos : Pos} {elts : List Expr} {kk i j : Nat} (hg : Gl X "zip") (hm : X.mg "zip" = none) (ha : PE X a (tVar i)) (hb : PE X b (tVar j))
    (hs : starEach [a, b] X.env = (false, eval a X.env) :: starEach [b] X.env := by rfl) (hs2 : starEach [b] X.env = (false, eval b X.env) :: starEach [] X.env := by rfl) (hpl : (backTo pos (starEach [b] X.env)).any (·.1) = false := by rfl) :
    PI X (.Tuple elts kk tpos) (.Call (.Name "zip" p) [a, b] [] pos) (liF ρ X.K T H0 (diZ i j)) :=
  PIw (pi_zipK hg hm (pa_cons ha (pa_cons hb pa_nil hs2) hs) hs hpl) fun σ H R ⟨e, P, r, ⟨x, y, xs, ys, hx, hy, fx, fy, hp⟩, k⟩ => by
    obtain ⟨u, vs, k1, h1, h2, h3, h4⟩ := fix_at r hx fx
    obtain ⟨v, ws, k2, g1, g2, g3, g4⟩ := fix_at r hy fy
    exact ⟨_, h1, _, g1, k1, k2, u, v, vs, ws, rfl, h2, g2, k _ H _ hp .refl (walkD_zip r.live (mutA_N r) h2 g2 h4 g4 h3 g3)⟩
theorem pif_var {tg : Expr} {i : Nat} (h : PE X a (tVar i)) (hl : PI X tg a (iList X.K (tVar i)) := by exact pi_list h) (ht : PI X tg a (iTup X.K (tVar i)) := by exact pi_tup h) : PI X tg a (liF ρ X.K T H0 (diV i)) :=
  ⟨fun pins s σ H R I ⟨e, P, r, ⟨x, xs, hx, fx, hp⟩, k⟩ => by
    obtain ⟨u, vs, k1, h1, h2, h3, h4⟩ := fix_at r hx fx
    cases k1 with
    | true =>
      obtain ⟨g1, g2, g3⟩ := h4 rfl
      exact hl.run pins s σ H R I ⟨_, h1, u, rfl, ⟨vs, h2⟩, k _ H _ hp .refl (walkD_list r.live (mutA_N r) g1 g2 g3 h3)⟩
    | false => exact ht.run pins s σ H R I ⟨_, h1, u, rfl, ⟨vs, h2⟩, k _ H _ hp .refl (walkD_tup r.live (mutA_N r) h2 h3)⟩⟩

/-! ### comprehensions -/
def liC (ρ : Option Addr) (K : PySem.W.Frag) (T : Tb) (H0 : Hp) (ci : CI) : TI := fun σ H R => ∃ e P, ER ρ K T H0 H σ e ∧ ci e P ∧ ∀ J H' xs, P xs → xs.length ≤ 100000 → Ext ρ T H H' → WalkD ρ K (fun _ => False) J H' xs → R J H'
theorem noN {H : Hp} : ∀ (a : Addr) (vs : List V), (fun _ : Addr => False) a → H a ≠ some (.tup vs) ∧ ∀ o u, H a ≠ some (.frz o u) := fun _ _ h => h.elim
theorem pic_list {tg : Expr} (h : PE X a (liE ρ X.K T H0 da)) : PI X tg a (liC ρ X.K T H0 (ciL da)) :=
  PIw (pi_list h) fun σ H R ⟨e, P, r, p, k⟩ => ⟨e, _, r, p, fun v H1 x ⟨xs, hx, hz, hp⟩ e1 r1 => by
    obtain ⟨b, vs, rfl, nρ, hb, hr⟩ := rv_lst r1 hx
    exact ⟨b, rfl, ⟨vs, SqL.of hb⟩, k _ H1 xs hp hz e1 (walkD_list (e1.live r.live) noN hb nρ id hr)⟩⟩
theorem pic_tup {tg : Expr} (h : PE X a (liE ρ X.K T H0 da)) : PI X tg a (liC ρ X.K T H0 (ciT da)) :=
  PIw (pi_tup h) fun σ H R ⟨e, P, r, p, k⟩ => ⟨e, _, r, p, fun v H1 x ⟨xs, hx, hz, hp⟩ e1 r1 => by
    subst hx
    obtain ⟨b, vs, rfl, hb, hr⟩ := rv_tup r1
    exact ⟨b, rfl, ⟨vs, hb⟩, k _ H1 xs hp hz e1 (walkD_tup (e1.live r.live) noN hb hr)⟩⟩
theorem pic_range {tg : Expr} {p : Pos} (hg : Gl X "range") (hm : X.mg "range" = none) (h : PE X a (liE ρ X.K T H0 da)) (hs : starEach [a] X.env = [(false, eval a X.env)] := by rfl) : PI X tg (.Call (.Name "range" p) [a] [] pos) (liC ρ X.K T H0 (ciR da)) :=
  PIw (pi_range1 hg hm (pa_cons h pa_nil hs) hs) fun σ H R ⟨e, P, r, p, k⟩ => ⟨e, _, r, p, fun v H1 x ⟨n, ex, h0, hn, hx⟩ e1 r1 => by
    subst ex
    have ev := rv_int r1
    subst ev
    exact ⟨n, rfl, by omega, by omega, k _ H1 _ hx (by rw [List.length_map, List.length_range]; omega) e1 walkD_range⟩⟩
theorem rv_sqK {K : PySem.W.Frag} {Hs H : Hp} {v : V} {x : Val} {ds : List PyData} (r : RV ρ K Hs H v x) (hx : x.zq = some ds) : ∃ a vs k, v = .ref a ∧ SqK k K H a vs ∧ RDs K H vs ds ∧ (k = true → H a = some (.lst vs) ∧ some a ≠ ρ ∧ ¬ False) := by
  cases x with
  | l xs =>
    cases hx
    obtain ⟨a, vs, h1, h2, h3, h4⟩ := r
    exact ⟨a, vs, true, h1, SqL.of h3, h4, fun _ => ⟨h3, h2, id⟩⟩
  | o xs =>
    cases hx
    obtain ⟨a, vs, h1, h2, h0, h3, h4⟩ := r
    exact ⟨a, vs, true, h1, SqL.of h3, h4, fun _ => ⟨h3, h2, id⟩⟩
  | d d =>
    cases d with
    | tuple xs =>
      cases hx
      obtain ⟨a, vs, h1, h2, h3⟩ := rv_tup r
      exact ⟨a, vs, false, h1, h2, h3, fun z => by cases z⟩
    | _ => cases hx
  | _ => cases hx
theorem pic_zip {p tpos : Pos} {elts : List Expr} {kk : Nat} (hg : Gl X "zip") (hm : X.mg "zip" = none) (ha : PE X a (liE ρ X.K T H0 da)) (hb : PE X b (liE ρ X.K T H0 db))
    (hs : starEach [a, b] X.env = (false, eval a X.env) :: starEach [b] X.env := by rfl) (hs2 : starEach [b] X.env = (false, eval b X.env) :: starEach [] X.env := by rfl) (hpl : (backTo pos (starEach [b] X.env)).any (·.1) = false := by rfl) :
    PI X (.Tuple elts kk tpos) (.Call (.Name "zip" p) [a, b] [] pos) (liC ρ X.K T H0 (ciZ da db)) :=
  PIw (pi_zipK hg hm (pa_cons ha (pa_cons hb pa_nil hs2) hs) hs hpl) fun σ H R ⟨e, P, r, p, k⟩ => ⟨e, _, r, p, fun v H1 x hx e1 r1 => ⟨e, _, r.to e1, hx, fun w H2 y hy e2 r2 => by
    obtain ⟨xs, ys, fx, fy, hz, hp⟩ := hy
    have l2 := e2.live (e1.live r.live)
    obtain ⟨u, vs, k1, rfl, h2, h3, h4⟩ := rv_sqK (r1.ext e2 (e1.live r.live)) fx
    obtain ⟨v', ws, k2, rfl, g2, g3, g4⟩ := rv_sqK r2 fy
    exact ⟨k1, k2, u, v', vs, ws, rfl, h2, g2, k _ H2 _ hp (by rw [zipD_len]; omega) (e1.trans e2) (walkD_zip l2 noN h2 g2 h4 g4 h3 g3)⟩⟩⟩
theorem wipe_at (σ : L2.St) : ∀ (vs : List Nat) (i : Nat), (wipe σ vs)[i]? = if i ∈ vs then σ[i]?.map fun _ => none else σ[i]?
  | [], i => by rw [if_neg (by simp)]; rfl
  | v :: vs, i => by
    unfold wipe
    by_cases hi : v = i
    · subst hi
      rw [if_pos List.mem_cons_self]
      by_cases hl : v < σ.length
      · rw [List.getElem?_set_self (by rw [wipe_length]; exact hl), List.getElem?_eq_getElem hl]
        rfl
      · rw [List.getElem?_eq_none (by rw [List.length_set, wipe_length]; omega), List.getElem?_eq_none (by omega)]
        rfl
    · rw [List.getElem?_set_ne hi, wipe_at σ vs i]
      by_cases hm : i ∈ vs
      · rw [if_pos hm, if_pos (List.mem_cons_of_mem _ hm)]
      · rw [if_neg hm, if_neg (by rw [List.mem_cons, not_or]; exact ⟨fun z => hi z.symm, hm⟩)]
theorem wipeE_at (e : Sl) : ∀ (vs : List Nat) (i : Nat) (x : Val), (wipeE e vs)[i]? = some (some x) → e[i]? = some (some x) ∧ i ∉ vs
  | [], i, x, h => ⟨h, by simp⟩
  | v :: vs, i, x, h => by
    unfold wipeE at h
    by_cases hi : v = i
    · subst hi
      by_cases hl : v < (wipeE e vs).length
      · rw [List.getElem?_set_self hl] at h
        cases h
      · rw [List.getElem?_eq_none (by rw [List.length_set]; omega)] at h
        cases h
    · rw [List.getElem?_set_ne hi] at h
      obtain ⟨h1, h2⟩ := wipeE_at e vs i x h
      exact ⟨h1, by rw [List.mem_cons, not_or]; exact ⟨fun z => hi z.symm, h2⟩⟩
theorem wipeE_len (e : Sl) : ∀ vs : List Nat, (wipeE e vs).length = e.length
  | [] => rfl
  | v :: vs => by unfold wipeE; rw [List.length_set, wipeE_len e vs]
theorem ER.wipe {K : PySem.W.Frag} {H : Hp} {σ : L2.St} {e : Sl} (r : ER ρ K T H0 H σ e) (vs : List Nat) : ER ρ K T H0 H (L2.wipe σ vs) (wipeE e vs) where
  len := by rw [wipe_length, wipeE_len]; exact r.len
  sl := fun i x h => by
    obtain ⟨h1, h2⟩ := wipeE_at e vs i x h
    obtain ⟨v, g1, g2, g3⟩ := r.sl i x h1
    exact ⟨v, by rw [wipe_at, if_neg h2]; exact g1, g2, g3⟩
  ap := fun i j x y v n h1 h2 m1 m2 s1 s2 => by
    obtain ⟨a1, a2⟩ := wipeE_at e vs i x h1
    obtain ⟨b1, b2⟩ := wipeE_at e vs j y h2
    rw [wipe_at, if_neg a2] at s1
    rw [wipe_at, if_neg b2] at s2
    exact r.ap i j x y v n a1 b1 m1 m2 s1 s2
  ext := r.ext
  live := r.live
  tab := r.tab
theorem wipe_back {σ σ2 : L2.St} {vs ds : List Nat} (t : Tgd ds (L2.wipe σ vs) σ2) (h : ∀ i ∈ ds, i ∈ vs) : L2.wipe σ2 vs = L2.wipe σ vs := by
  apply List.ext_getElem?
  intro i
  rw [wipe_at]
  by_cases hi : i ∈ vs
  · rw [if_pos hi, wipe_at, if_pos hi]
    have hl : σ2.length = σ.length := by rw [t.len, wipe_length]
    by_cases hs : i < σ.length
    · rw [List.getElem?_eq_getElem hs, List.getElem?_eq_getElem (by omega)]
      rfl
    · rw [List.getElem?_eq_none (by omega), List.getElem?_eq_none (by omega)]
  · rw [if_neg hi, t.out i fun z => hi (h i z)]
theorem lc_ok {K : PySem.W.Frag} {ci : CI} {g : Tg} {dt : DT} {del : DE} {vs : List Nat} (hgs : ∀ i ∈ g.ds, i ∈ vs) {σ : L2.St} {H : Hp} {Q : VK} (h : liE ρ K T H0 (dLc ci g dt del vs) σ H Q) : tLc (liC ρ K T H0 ci) (rawG K g) (liT ρ K T H0 dt) (liE ρ K T H0 del) vs σ H Q := by
  obtain ⟨e, P, r, p, k⟩ := h
  refine ⟨e, _, r, p, fun J H1 xs hx hz e1 w D hD => ?_⟩
  have l1 : Live ρ H1 := e1.live r.live
  have nD : some D ≠ ρ := l1.new hD
  refine lc_it w (fun i Ha => ∃ acc us, lcLoop g dt del (wipeE e vs) P (xs.drop i) acc ∧ acc.length ≤ i ∧ Ext ρ T H1 Ha ∧ Ha D = some (.lst us) ∧ RDs K Ha us acc) ⟨[], [], hx, Nat.le_refl _, .new hD, upd_same, .nil⟩ (fun i Ha hi ⟨acc, us, _, _, ea, _⟩ => fun a o h1 h2 h3 _ => ea.st a o h1 h2 h3) (fun i v Ha Hb hi ⟨acc, us, q, hl, ea, hd, hr⟩ ⟨hk, dd, hdd, rd⟩ => ?_) (fun Ha ⟨acc, us, q, hl, ea, hd, hr⟩ => ?_)
  · have ed : xs.drop i = dd :: xs.drop (i + 1) := by
      obtain ⟨h1, h2⟩ := List.getElem?_eq_some_iff.mp hdd
      rw [List.drop_eq_getElem_cons h1, h2]
    rw [ed] at q
    have q' : dG g dd (wipeE e vs) fun e2 => dt e2 fun b => if b = true then del e2 fun y => ∃ d, y = .d d ∧ lcLoop g dt del (wipeE e vs) P (xs.drop (i + 1)) (acc ++ [d]) else lcLoop g dt del (wipeE e vs) P (xs.drop (i + 1)) acc := q
    have eb : Ext ρ T Ha Hb := .of hk
    have rb : ER ρ K T H0 Hb (L2.wipe σ vs) (wipeE e vs) := (((r.to e1).to ea).to eb).wipe vs
    have la : Live ρ Ha := ea.live l1
    refine rawG_ok g v dd (L2.wipe σ vs) (wipeE e vs) _ _ rb rd q' fun σ2 e2 q2 r2 f2 t2 => ⟨wipe_back t2 hgs, ?_⟩
    refine ⟨e2, _, r2, q2, fun bb H3 hb e3 => ?_⟩
    have hd3 : H3 D = some (.lst us) := e3.st D _ (hk D _ hd) nD fun _ z => nomatch z
    have hr3 : RDs K H3 us acc := (hr.ext eb la).ext e3 (eb.live la)
    cases bb with
    | true =>
      refine ⟨e2, _, r2.to e3, hb, fun u H4 y hy e4 r4 => ?_⟩
      obtain ⟨dy, ey, q4⟩ := hy
      subst ey
      have l3 : Live ρ H3 := e3.live (eb.live la)
      have hd4 : H4 D = some (.lst us) := e4.st D _ hd3 nD fun _ z => nomatch z
      have hr4 : RDs K H4 us acc := hr3.ext e4 l3
      have ry : RD K H4 u dy := r4
      have tk : ∀ a ws, SqT K H4 a ws → SqT K (upd H4 D (.lst (us ++ [u]))) a ws := fun a ws h => by
        rcases h with (h | ⟨o, h⟩) | h
        · refine .inl (.inl ?_)
          rw [upd_ne (ne_of h hd4 fun z => nomatch z)]
          exact h
        · refine .inl (.inr ⟨o, ?_⟩)
          rw [upd_ne (ne_of h hd4 fun z => nomatch z)]
          exact h
        · exact .inr h
      have e14 : Ext ρ T H1 H4 := ((ea.trans eb).trans e3).trans e4
      refine ⟨us, hd4, by rw [hr4.length, sizeLine_eq]; omega, acc ++ [dy], us ++ [u], q4, by rw [List.length_append, List.length_singleton]; omega, ⟨fun a o h n m => ?_, fun a ha hrg => ?_, fun t => ?_, fun a h => ?_⟩, upd_same, (hr4.append (.cons ry .nil)).keep tk⟩
      · rw [upd_ne (ne_of_none h hD)]
        exact e14.st a o h n m
      · obtain ⟨x1, y1, z1, w1⟩ := e14.rg a ha hrg
        refine ⟨x1, y1, z1, ?_⟩
        rw [upd_ne fun z => nD (by rw [ha, z])]
        exact w1
      · exact Tabs.upd_mut (e14.tb t) hd4 (fun ps z => nomatch z) fun φ z => nomatch z
      · by_cases ha : a = D
        · rw [ha]
          exact .of hD
        · exact e14.fr a fun o e => h o (by rw [upd_ne ha]; exact e)
    | false => exact ⟨acc, us, hb, by omega, (ea.trans eb).trans e3, hd3, hr3⟩
  · rw [List.drop_length] at q
    exact k (.ref D) Ha (.o acc) q (e1.trans ea) ⟨D, us, rfl, nD, e1.fr D (.of hD), hd, hr⟩
theorem pd_lc {elt tg iter : Expr} {ifs : List Expr} {scope : Scope} {own : List (Str × Nat)} {ci : CI} {g : Tg} {dt : DT} {del : DE} (hc : X.calm = true) (hN : X.N.Nodup) (hi : PI X tg iter (liC ρ X.K T H0 ci)) (ok : BlkOk X.N X.env.scope scope own)
    (hg : ∀ (s : Shared) (H : Hp) (C : Addr) (cl : List (Str × Addr)) (fp : List Addr), PG (X.blk s H scope (compEnvC scope cl C X.env) fp) tg (rawG X.K g)) (ht : ∀ (s : Shared) (H : Hp) (C : Addr) (cl : List (Str × Addr)) (fp : List Addr), PTs (X.blk s H scope (compEnvC scope cl C X.env) fp) ifs (liT ρ X.K T H0 dt))
    (he : ∀ (s : Shared) (H : Hp) (C : Addr) (cl : List (Str × Addr)) (fp : List Addr), PE (X.blk s H scope (compEnvC scope cl C X.env) fp) elt (liE ρ X.K T H0 del)) (hgs : ∀ i ∈ g.ds, i ∈ own.map (·.2) := by decide) (hs : ∀ x, foldedSetIterable iter X.env x = pure x := by intro _; rfl) :
    PE X (.ListComp elt [⟨tg, iter, ifs, 0⟩] scope pos) (liE ρ X.K T H0 (dLc ci g dt del (own.map (·.2)))) :=
  PEw (pe_lc hc hN hi ok hg ht he hs) fun σ H Q h => lc_ok hgs h
/-- name = [..] on one line -/
theorem ps_lc {i : Nat} {y : Str} {py spos : Pos} {elt tg iter : Expr} {ifs : List Expr} {scope : Scope} {own : List (Str × Nat)} {ci : CI} {g : Tg} {dt : DT} {del : DE} (hc : X.calm = true) (hN : X.N.Nodup) (hy : X.N[i]? = some y) (hyl : X.env.scope.names.lookup y = some .local)
    (hsw : swapsWith (.ListComp elt [⟨tg, iter, ifs, 0⟩] scope pos) (some (.Name y py)) spos.line X.env = pure true) (hi : PI X tg iter (liC ρ X.K T H0 ci)) (ok : BlkOk X.N X.env.scope scope own)
    (hg : ∀ (s : Shared) (H : Hp) (C : Addr) (cl : List (Str × Addr)) (fp : List Addr), PG (X.blk s H scope (compEnvC scope cl C X.env) fp) tg (rawG X.K g)) (ht : ∀ (s : Shared) (H : Hp) (C : Addr) (cl : List (Str × Addr)) (fp : List Addr), PTs (X.blk s H scope (compEnvC scope cl C X.env) fp) ifs (liT ρ X.K T H0 dt))
    (he : ∀ (s : Shared) (H : Hp) (C : Addr) (cl : List (Str × Addr)) (fp : List Addr), PE (X.blk s H scope (compEnvC scope cl C X.env) fp) elt (liE ρ X.K T H0 del)) (hgs : ∀ i ∈ g.ds, i ∈ own.map (·.2) := by decide) (hs : ∀ x, foldedSetIterable iter X.env x = pure x := by intro _; rfl) :
    PS X (.Assign [.Name y py] (.ListComp elt [⟨tg, iter, ifs, 0⟩] scope pos) spos) (tAsg (liE ρ X.K T H0 (dLc ci g dt del (own.map (·.2)))) (gName i)) :=
  PSw (ps_setLc hc hN hy hyl hsw hi ok hg ht he hs) fun D σ H h => lc_ok hgs h
theorem ptsd_nil : PTs X [] (liT ρ X.K T H0 dYes) := PTsw pts_nil fun σ H Q ⟨e, P, r, p, k⟩ => k true H p .refl
theorem ptsd_one {t : DT} (h : PT X c (liT ρ X.K T H0 t)) : PTs X [c] (liT ρ X.K T H0 t) := pts_one h
end
end Bx
/-! Bx6: max of three, sorted of data, d.update(pairs), xs[::2], tuple * k -/
namespace Bx
open PySem PySem.Spec PyProof.Rows L2
open LamX (Tabs)
/-! ### max of three -/
theorem bx_vals3 {x y z : V} {us : List Value} (r : Vals [x, y, z] us) : ∃ u w' t', us = [u, w', t'] ∧ RelV x u ∧ RelV y w' ∧ RelV z t' := by
  cases r with
  | cons r1 r2 =>
    obtain ⟨u, w', rfl, r3, r4⟩ := L2.vals2 r2
    exact ⟨_, u, w', rfl, r1, r3, r4⟩
def rMax3 : List V → Hp → VK → Prop := fun xs H Q => ∃ i j k, xs = [.int i, .int j, .int k] ∧ Q (.int (mx2 (mx2 i j) k)) H
theorem cr_max3 {X : Cx} (hc : X.calm = true) : CallR X (.builtin "max") rMax3 := by
  intro pins s σ H vs us Q I r h
  obtain ⟨i, j, k, rfl, q⟩ := h
  obtain ⟨u1, u2, u3, rfl, ⟨t1, rfl⟩, ⟨t2, rfl⟩, ⟨t3, rfl⟩⟩ := bx_vals3 r
  refine max_three_ints (I.ok.hd hc) fun h' tk hk => ?_
  refine ⟨.int (mx2 (mx2 i j) k), H, I.kept hk, ?_, q⟩
  unfold mx2
  by_cases h1 : j > i
  · rw [if_pos h1, if_pos h1]
    by_cases h2 : k > j
    · rw [if_pos h2, if_pos h2]; exact ⟨_, rfl⟩
    · rw [if_neg h2, if_neg h2]; exact ⟨_, rfl⟩
  · rw [if_neg h1, if_neg h1]
    by_cases h2 : k > i
    · rw [if_pos h2, if_pos h2]; exact ⟨_, rfl⟩
    · rw [if_neg h2, if_neg h2]; exact ⟨_, rfl⟩
section
variable {X : Cx} {ρ : Option Addr} {T : Tb} {H0 : Hp} {a b c : Expr} {es : List Expr} {pos : Pos} {da db dc : DE} {n : Nat}
theorem sc_max3 : SC ρ X.K T fMax3 rMax3 := fun Hs H vs xs P Q l r ⟨i, j, m, ex, hp⟩ k => by
  subst ex
  obtain ⟨v, w, u, rfl, r1, r2, r3⟩ := rvs3 r
  exact ⟨i, j, m, by rw [rv_int r1, rv_int r2, rv_int r3], k _ H _ hp .refl (.int _)⟩

/-! ### sorted of data -/
def RelD (K : PySem.W.Frag) (H : Hp) (u : Value) (d : PyData) : Prop := ∃ v, RelV v u ∧ RD K H v d
theorem each_of {K : PySem.W.Frag} {H : Hp} : ∀ {vs : List V} {us : List Value} {ds : List PyData}, Vals vs us → RDs K H vs ds → PySem.W.EachIs (RelD K H) us ds
  | _, _, _, .nil, .nil => .nil
  | _, _, _, .cons r t, .cons q u => .cons ⟨_, r, q⟩ (each_of t u)
theorem each_back {K : PySem.W.Frag} {H : Hp} : ∀ {us : List Value} {ds : List PyData}, PySem.W.EachIs (RelD K H) us ds → ∃ vs, Vals vs us ∧ RDs K H vs ds
  | _, _, .nil => ⟨[], .nil, .nil⟩
  | _, _, .cons ⟨v, r, q⟩ t => by
    obtain ⟨vs, h1, h2⟩ := each_back t
    exact ⟨v :: vs, .cons r h1, .cons q h2⟩
def rSortD (K : PySem.W.Frag) : List V → Hp → VK → Prop := fun vs H Q => ∃ (a : Addr) (ws : List V) (ds : List PyData), vs = [V.ref a] ∧ SqL K H a ws ∧ RDs K H ws ds ∧ PySem.W.AllAlike ds ∧ PySem.W.Sortable ds ∧ ds.length ≤ 100000 ∧ (∀ d ∈ ds, d.depth ≤ 50) ∧
  ∀ (ws' : List V) (p : Addr), RDs K H ws' (ds.mergeSort (PySem.W.dataLe false id)) → H p = none → Q (.ref p) (upd H p (.lst ws'))
theorem cr_sortD (hu : X.A.units + 64 < cLine) : CallR X (.builtin "sorted") (rSortD X.K) := by
  intro pins s σ H vs us Q I r h
  obtain ⟨a, ws, ds, rfl, hs, hr, hal, hso, hz, hd, q⟩ := h
  obtain rfl := Vals.ref1 r
  obtain ⟨its, rv, hl, hz'⟩ := I.list hs
  have e := each_of rv hr
  refine PySem.W.sorted_data (enc := id) hl.isList e (e.mono fun u d ⟨v, r1, r2⟩ => Dp.reads I d v u (RD.dp d v r2) r1) (by rw [List.map_id]; exact hal) (by rw [List.map_id]; exact hso) (by rw [sizeLine_eq]; omega) (fun d hm => ?_) fun out ho eo => ?_
  · have := hd d hm
    show X.A.units + 2 + d.depth < cLine
    omega
  · obtain ⟨ws', r1, r2⟩ := each_back eo
    obtain ⟨ep, he'⟩ := PyProof.Rows.sortedAll_at s.heap its out.toArray
    have hlen : ws'.length ≤ sizeLine := by
      rw [r1.length, ho, sizeLine_eq]
      omega
    exact ⟨.ref _, upd H (s.heap.objs.size + 1) (.lst ws'), I.laid (t' := s.toks) (fun _ _ => PyProof.Rows.sortedAll_old) (Nat.le_succ _) ⟨hlen, _, ep, r1, he'⟩, rfl, q _ _ r2 (I.hok.fresh (Nat.le_succ _))⟩
theorem sc_sort : SC ρ X.K T fSorted (rSortD X.K) := fun Hs H vs xs P Q l r ⟨x, ds, ex, hx, h1, h2, h3, h4, hp⟩ k => by
  subst ex
  obtain ⟨v, rfl, r1⟩ := rvs1 r
  obtain ⟨a, ws, ev, _, ha, hr⟩ := rv_lst r1 hx
  refine ⟨a, ws, ds, by rw [ev], SqL.of ha, hr, h1, h2, h3, h4, fun ws' q hw hq => ?_⟩
  have e2 : Ext ρ T H (upd H q (.lst ws')) := .new hq
  exact k _ _ _ hp e2 ⟨q, ws', rfl, l.new hq, .of hq, upd_same, hw.ext e2 l⟩

/-! ### d.update(pairs) -/
def rUpd (K : PySem.W.Frag) : V → List V → Hp → VK → Prop := fun x xs H Q => ∃ (d a : Addr) (kvs0 kvs : List (Key × V)) (ps : List Addr), x = .ref d ∧ xs = [.ref a] ∧ H d = some (.dK kvs0) ∧ SqL K H a (ps.map V.ref) ∧ Paired (fun p kv => SqT K H p [kV kv.1, kv.2]) ps kvs ∧ kvs0.length + ps.length ≤ sizeLine ∧
  Q .non (upd H d (.dK (mergeK kvs0 kvs)))
theorem mt_upd (hc : X.calm = true) : MtR X "dict.update" (rUpd X.K) := by
  intro pins s σ H x xs v us Q I rx r h
  obtain ⟨d, a, kvs0, kvs, ps, rfl, rfl, hd, hs, hp, hz, q⟩ := h
  cases rx
  obtain rfl := Vals.ref1 r
  obtain ⟨its, rv, pl, hzl⟩ := I.list hs
  have ei := refs_at rv
  subst ei
  obtain ⟨prs, rel, hl, hpr⟩ := pairs_of I hp
  obtain ⟨z, hsys, vs0, rel0, dd⟩ := dk_of I.hok hd
  obtain ⟨o, n, ho, hcl, hdn, hdat⟩ := id pl
  -- the keys' values
  have keys : ∃ kw : List (Value × Value), kw.length = ps.length ∧ ∀ (j : Nat) (k v : Value), kw[j]? = some (k, v) → ∃ b q, ps[j]? = some b ∧ prs[j]? = some q ∧ q.2 = v ∧ IsTup s.heap b #[k, v] ∧ keyIs q.1 k = true := by
    have step : ∀ (m : Nat), m ≤ ps.length → ∃ kw : List (Value × Value), kw.length = m ∧ ∀ (j : Nat) (k v : Value), kw[j]? = some (k, v) → ∃ b q, ps[j]? = some b ∧ prs[j]? = some q ∧ q.2 = v ∧ IsTup s.heap b #[k, v] ∧ keyIs q.1 k = true := by
      intro m
      induction m with
      | zero => exact fun _ => ⟨[], rfl, fun j k v h => by simp at h⟩
      | succ m ih =>
        intro hm
        obtain ⟨kw, h1, h2⟩ := ih (by omega)
        obtain ⟨q, hq⟩ : ∃ q, prs[m]? = some q := ⟨prs[m]'(by omega), List.getElem?_eq_getElem (by omega)⟩
        obtain ⟨b, u, e1, e2, e3⟩ := hpr m q hq
        refine ⟨kw ++ [(u, q.2)], by simp [h1], fun j k v h => ?_⟩
        by_cases hj : j < m
        · rw [List.getElem?_append_left (by omega)] at h
          exact h2 j k v h
        · rw [List.getElem?_append_right (by omega)] at h
          have : j = m := by
            have := (List.getElem?_eq_some_iff.mp h).1
            simp at this
            omega
          subst this
          rw [h1] at h
          simp at h
          obtain ⟨rfl, rfl⟩ := h
          exact ⟨b, q, e1, hq, rfl, e2, e3⟩
    exact step _ (Nat.le_refl _)
  obtain ⟨kw, hkl, hkw⟩ := keys
  have items : PairItems s.heap ((ps.map Value.ref).toArray) (fun j => ps.getD j 0) kw := by
    refine ⟨by simp [hkl], fun j k v h => ?_⟩
    obtain ⟨b, q, e1, e2, e3, e4, e5⟩ := hkw j k v h
    have eb : ps.getD j 0 = b := by rw [List.getD_eq_getElem?_getD, e1]; rfl
    refine ⟨by simp [e1], .inl ?_⟩
    show s.heap.IsTuple (ps.getD j 0) #[k, v]
    rw [eb]
    exact e4
  refine call_update_pairs (knd := mixKind X.prog X.w) (acc := vs0) (kvs := prs) (PairArg.list a (ps.map Value.ref).toArray (fun j => ps.getD j 0) kw) (I.ok.hd hc) ⟨⟨o, n, ho, hcl, hdn, hdat⟩, items⟩ (fun hm => ?_) ⟨by rw [hl, hkl], fun i key v hrel => ?_⟩ dd (by rw [← rel0.length, hkl]; exact hz) fun h' tk dd' hk => ?_
  · have hdo : ∃ od, s.heap.get? d = some od ∧ od.cls = .type "dict" := dd.typeIs
    obtain ⟨od, hod, hdc⟩ := hdo
    rcases List.mem_cons.mp hm with e | hm
    · rw [e, ho] at hod
      cases hod
      rw [hcl] at hdc
      injection hdc with hdc
      exact absurd hdc (by decide)
    · obtain ⟨j, hj, ej⟩ := List.mem_map.mp hm
      have hj' : j < kw.length := List.mem_range.mp hj
      obtain ⟨⟨k, v⟩, hkv⟩ : ∃ p, kw[j]? = some p := ⟨_, List.getElem?_eq_getElem hj'⟩
      obtain ⟨b, q, e1, e2, e3, ⟨ob, e4, e6, _⟩, e5⟩ := hkw j k v hkv
      have eb : ps.getD j 0 = b := by rw [List.getD_eq_getElem?_getD, e1]; rfl
      have eb' : d = b := by rw [← ej]; exact eb
      rw [eb', e4] at hod
      cases hod
      rw [e6] at hdc
      injection hdc with hdc
      exact absurd hdc (by decide)
  · obtain ⟨b, q, e1, e2, e3, e4, e5⟩ := hkw i key v hrel
    refine ⟨q.1, ?_, e5⟩
    rw [e2, ← e3]
  · have he : ∃ q, h'.get? d = some q := let ⟨q, _, _, hq, _⟩ := dd'; ⟨q, hq⟩
    have hlen : (mergeK kvs0 kvs).length ≤ sizeLine := by
      refine Nat.le_trans (length_mergeK kvs kvs0) ?_
      have := rel.length
      omega
    exact ⟨.non, _, I.write (x := d) (e := d) (by rw [hd]; exact True.intro) (.inl rfl) (fun b o hb z => hk b o hb (fun q => nomatch q) z) he (dk_new hlen hsys (rel.merge rel0) dd'), rfl, q⟩
/-- d.update([..]) -/
theorem psd_upd {st : Stmt} {i : Nat} (h : PS X st (tDrop (tBM X.K "dict" (rUpd X.K) (tVar i) (tCons (liE ρ X.K T H0 da) tNil)))) : PS X st (liS ρ X.K T H0 (sUpd i da)) :=
  PSw h fun D σ H ⟨e, B, r, ⟨nn, f, hi, p⟩, k1, _⟩ => by
    obtain ⟨v, h1, h2, _⟩ := r.sl i _ hi
    obtain ⟨q, kvs, rfl, nρ, h0, hq, hr, hn⟩ := id h2
    refine ⟨_, h1, .inr (.inr (.inl ⟨rfl, .inl ⟨kvs, hq⟩⟩)), e, _, r, p, fun w H1 x ⟨ps, hx, hz, hnx⟩ e1 r1 => ?_⟩
    have r' := r.to e1
    obtain ⟨v', h1', h2', _⟩ := r'.sl i _ hi
    rw [h1] at h1'
    cases h1'
    obtain ⟨q', kvs', eq', _, _, hq', hr', hn'⟩ := id h2'
    cases eq'
    obtain ⟨b, ws, rfl, _, hb, hrw⟩ := rv_lst r1 hx
    obtain ⟨as, us, e1', e2, e3, e4⟩ := pairs_at hrw
    subst e1'
    have hasl : as.length = ps.length := by
      have := hrw.length
      rwa [List.length_map, List.length_map] at this
    refine ⟨q, b, kvs', _, as, rfl, rfl, hq', SqL.of hb, e3, by rw [hasl, sizeLine_eq]; omega, ?_⟩
    refine k1 _ _ _ hnx (r'.mutate hi trivial h1 hq' (.inr ⟨_, rfl⟩) (fun tk n1 n2 => ⟨q, _, rfl, n1, n2, upd_same, (rf_merge ps us kvs' f e2 e4 hr').keep tk, ?_⟩) trivial) ((Fm.of e1).trans (Fm.mutate hi trivial h1 hq' trivial fun _ z => nomatch z))
    refine Nat.le_trans (length_mergeK _ _) ?_
    rw [List.length_zip, List.length_map, e2]
    omega

/-! ### xs[::2], xs[1::2] -/
theorem evens_pick {α : Type} (ev : List α → List α) (h0 : ev [] = []) (h1 : ∀ x, ev [x] = [x]) (h2 : ∀ x y r, ev (x :: y :: r) = x :: ev r) : ∀ (n : Nat) (xs : List α), xs.length ≤ n → ((List.range ((xs.length + 1) / 2)).map fun k => 2 * k).filterMap (xs[·]?) = ev xs
  | _, [], _ => by rw [h0]; simp
  | _, [x], _ => by rw [h1]; simp
  | 0, _ :: _ :: _, h => by simp at h
  | n + 1, x :: y :: r, h => by
    have e : ((x :: y :: r).length + 1) / 2 = (r.length + 1) / 2 + 1 := by
      rw [List.length_cons, List.length_cons]
      omega
    have ih := evens_pick ev h0 h1 h2 n r (by simp at h; omega)
    rw [e, List.range_succ_eq_map, List.map_cons, List.map_map, List.filterMap_cons, h2, ← ih]
    show x :: _ = _
    congr 1
    rw [List.filterMap_map, List.filterMap_map]
    congr 1
theorem range2 (a b : Int) : sliceRange a b 2 = (List.range (if a < b then (b - a + 2 - 1) / 2 else 0).toNat).map fun k : Nat => (a + 2 * (k : Int)).toNat := rfl
theorem evens_at {α : Type} (ev : List α → List α) (h0 : ev [] = []) (h1 : ∀ x, ev [x] = [x]) (h2 : ∀ x y r, ev (x :: y :: r) = x :: ev r) (xs : List α) : (sliceRange 0 xs.length 2).filterMap (xs[·]?) = ev xs := by
  rw [← evens_pick ev h0 h1 h2 _ xs (Nat.le_refl _), range2]
  have e : (if (0 : Int) < xs.length then ((xs.length : Int) - 0 + 2 - 1) / 2 else 0).toNat = (xs.length + 1) / 2 := by
    split <;> omega
  rw [e]
  congr 1
  apply List.map_congr_left
  intro k _
  omega
theorem odds_at {α : Type} (ev od : List α → List α) (h0 : ev [] = []) (h1 : ∀ x, ev [x] = [x]) (h2 : ∀ x y r, ev (x :: y :: r) = x :: ev r) (o0 : od [] = []) (o1 : ∀ x r, od (x :: r) = ev r) (xs : List α) : (sliceRange (min 1 (xs.length : Int)) xs.length 2).filterMap (xs[·]?) = od xs := by
  cases xs with
  | nil =>
    rw [o0]
    rfl
  | cons x r =>
    rw [o1, ← evens_at ev h0 h1 h2 r]
    have em : min 1 (((x :: r).length : Nat) : Int) = 1 := by
      rw [List.length_cons]
      omega
    rw [em, range2, range2]
    have ec : (if (1 : Int) < ((x :: r).length : Nat) then (((x :: r).length : Nat) - 1 + 2 - 1 : Int) / 2 else 0).toNat = (if (0 : Int) < (r.length : Nat) then ((r.length : Nat) - 0 + 2 - 1 : Int) / 2 else 0).toNat := by
      rw [List.length_cons]
      split <;> split <;> omega
    rw [ec, List.filterMap_map, List.filterMap_map]
    congr 1
    funext k
    show (x :: r)[((1 : Int) + 2 * (k : Int)).toNat]? = r[((0 : Int) + 2 * (k : Int)).toNat]?
    have e1 : ((1 : Int) + 2 * (k : Int)).toNat = 2 * k + 1 := by omega
    have e2 : ((0 : Int) + 2 * (k : Int)).toNat = 2 * k := by omega
    rw [e1, e2]
    rfl
def evV : List V → List V
  | [] => []
  | [x] => [x]
  | x :: _ :: r => x :: evV r
def odV : List V → List V
  | [] => []
  | _ :: r => evV r
def evX : List Value → List Value
  | [] => []
  | [x] => [x]
  | x :: _ :: r => x :: evX r
def odX : List Value → List Value
  | [] => []
  | _ :: r => evX r
theorem ev_vals : ∀ {vs : List V} {us : List Value}, Vals vs us → Vals (evV vs) (evX us)
  | _, _, .nil => .nil
  | _, _, .cons r .nil => .cons r .nil
  | _, _, .cons r (.cons _ t) => .cons r (ev_vals t)
theorem od_vals : ∀ {vs : List V} {us : List Value}, Vals vs us → Vals (odV vs) (odX us)
  | _, _, .nil => .nil
  | _, _, .cons r t => ev_vals t
theorem ev_rds {K : PySem.W.Frag} {H : Hp} : ∀ {vs : List V} {ds : List PyData}, RDs K H vs ds → RDs K H (evV vs) (evens ds)
  | _, _, .nil => .nil
  | _, _, .cons r .nil => .cons r .nil
  | _, _, .cons r (.cons _ t) => .cons r (ev_rds t)
theorem od_rds {K : PySem.W.Frag} {H : Hp} : ∀ {vs : List V} {ds : List PyData}, RDs K H vs ds → RDs K H (odV vs) (odds ds)
  | _, _, .nil => .nil
  | _, _, .cons r t => ev_rds t
theorem evV_len : ∀ vs : List V, (evV vs).length ≤ vs.length
  | [] => Nat.le_refl _
  | [x] => Nat.le_refl _
  | x :: y :: r => by
    have := evV_len r
    simp only [evV, List.length_cons]
    omega
theorem odV_len : ∀ vs : List V, (odV vs).length ≤ vs.length
  | [] => Nat.le_refl _
  | x :: r => by
    have := evV_len r
    simp only [odV, List.length_cons]
    omega
theorem slice2_ev (its : List Value) : slicePick its.toArray none none (some 2) = (evX its).toArray := by
  unfold slicePick
  have := evens_at evX rfl (fun _ => rfl) (fun _ _ _ => rfl) its
  rw [← this]
  simp [sliceBounds]
theorem slice2_od (its : List Value) : slicePick its.toArray (some 1) none (some 2) = (odX its).toArray := by
  unfold slicePick
  have := odds_at evX odX rfl (fun _ => rfl) (fun _ _ _ => rfl) rfl (fun _ _ => rfl) its
  rw [← this]
  have hb : sliceBounds (some 1) none (some 2) its.toArray.size = (min 1 (its.length : Int), (its.length : Int), 2) := by
    simp [sliceBounds]
    omega
  rw [hb]
  simp
def tSl2 (odd : Bool) (K : PySem.W.Frag) (te : TE) : TE := fun σ H Q => te σ H fun x H1 => ∃ a xs, x = .ref a ∧ SqL K H1 a xs ∧ ∀ p, H1 p = none → Q (.ref p) (upd H1 p (.lst (if odd then odV xs else evV xs)))
theorem pe_sl2 {odd : Bool} {e : Expr} {te : TE} {lo : Option Expr} {k : Nat} {p1 p3 pos : Pos} (he : PE X e te) (hlo : PO X lo (fun _ H Q => Q (if odd then some 1 else none) H)) : PE X (.Subscript e (.Slice lo none (some (.Constant (.int 2) k p1)) p3) pos) (tSl2 odd X.K te) := by
  refine ⟨fun pins s σ H Q I h => ?_⟩
  refine Subscript_ (thn (he.run pins s σ H _ I h) fun v s1 ⟨x, H1, I1, r1, q1⟩ => ?_)
  obtain ⟨a, xs, ex, hx, q⟩ := q1
  subst ex
  cases r1
  have hst : PO X (some (.Constant (.int 2) k p1)) (tPart (tC (.int 2))) := po_some pe_int
  refine wpAny_Slice (thn (hlo.run pins s1 σ H1 (fun o H2 => o = (if odd then some 1 else none) ∧ H2 = H1) I1 ⟨rfl, rfl⟩) fun vl s2 ⟨l, H2, I2, pl, el, e2⟩ => ?_)
  subst el e2
  refine thn (po_none.run pins s2 σ H2 (fun o H3 => o = none ∧ H3 = H2) I2 ⟨rfl, rfl⟩) fun vu s3 ⟨u, H3, I3, pu, eu, e3⟩ => ?_
  subst eu e3
  refine thn (hst.run pins s3 σ H3 (fun o H4 => o = some 2 ∧ H4 = H3) I3 ⟨2, rfl, rfl, rfl⟩) fun vs s4 ⟨o, H4, I4, ps, eo, e4⟩ => ?_
  subst eo e4
  have I5 : Inv X pins σ H4 { s4 with heap := s4.heap.push { cls := .type "slice", data := .fields #[vl, vu, vs] } } := I4.kept (t' := s4.toks) fun b ob q => Heap.get?_push_of_some _ q
  obtain ⟨its, r, ht, hz⟩ := I5.list hx
  have hlen := r.length
  show wpAny (model X.prog X.w) X.A (subscriptTail e (.Slice lo none (some (.Constant (.int 2) k p1)) p3) (.ref a) (.ref s4.heap.objs.size)) (EP X pins σ Q) X.xe { s4 with heap := s4.heap.push { cls := .type "slice", data := .fields #[vl, vu, vs] } }
  refine tail_any (ops := [.ref a, .ref s4.heap.objs.size]) ht.isList.typeIs (PySem.slot_list_getitem.lookup) ?_ (by with_unfolding_all rfl)
  refine wpAny_getItem_list_slice ht.isList (Heap.IsSliceOf.new _ vl vu vs) pl pu ps (by decide) ?_ (by rw [List.size_toArray]; omega)
  cases odd with
  | true =>
    rw [show (if true = true then some (1 : Int) else none) = some 1 from rfl, slice2_od]
    refine ⟨.ref _, _, I5.laid (t' := s4.toks) (o := .lst (odV xs)) (fun b ob q => Heap.get?_push_of_some _ q) (Nat.le_refl _) ?_, rfl, q _ (I5.hok.fresh (Nat.le_refl _))⟩
    exact ⟨Nat.le_trans (odV_len xs) hz, _, 0, od_vals r, Heap.get?_push_size _ rfl⟩
  | false =>
    rw [show (if false = true then some (1 : Int) else none) = none from rfl, slice2_ev]
    refine ⟨.ref _, _, I5.laid (t' := s4.toks) (o := .lst (evV xs)) (fun b ob q => Heap.get?_push_of_some _ q) (Nat.le_refl _) ?_, rfl, q _ (I5.hok.fresh (Nat.le_refl _))⟩
    exact ⟨Nat.le_trans (evV_len xs) hz, _, 0, ev_vals r, Heap.get?_push_size _ rfl⟩
theorem po_one {k : Nat} {p : Pos} : PO X (some (.Constant (.int 1) k p)) (fun _ H Q => Q (if true then some 1 else none) H) := POw (po_some pe_int) fun σ H Q h => ⟨1, rfl, h⟩
theorem po_non : PO X none (fun _ H Q => Q (if false then some 1 else none) H) := POw po_none fun σ H Q h => h
theorem pd_sl2 {odd : Bool} {lo : Option Expr} {k : Nat} {p1 p3 : Pos} (he : PE X a (liE ρ X.K T H0 da)) (hlo : PO X lo (fun _ H Q => Q (if odd then some 1 else none) H)) : PE X (.Subscript a (.Slice lo none (some (.Constant (.int 2) k p1)) p3) pos) (liE ρ X.K T H0 (dSl2 odd da)) :=
  PEw (pe_sl2 he hlo) fun σ H Q ⟨e, P, q, p, k⟩ => ⟨e, _, q, p, fun v H1 x hx e1 r1 => by
    obtain ⟨xs, hx, hz, hp⟩ := hx
    have l1 := e1.live q.live
    obtain ⟨a, vs, ev, nρ, ha, hr⟩ := rv_lst r1 hx
    refine ⟨a, vs, ev, SqL.of ha, fun z hz => ?_⟩
    have e4 : Ext ρ T H1 (upd H1 z (.lst (if odd then odV vs else evV vs))) := .new hz
    refine k _ _ _ hp (e1.trans e4) ⟨z, _, rfl, l1.new hz, e1.fr z (.of hz), upd_same, ?_⟩
    cases odd with
    | true => exact (od_rds hr).ext e4 l1
    | false => exact (ev_rds hr).ext e4 l1⟩

/-! ### tuple * 1 -/
theorem tuple_mul1 (l : Addr) (items : Array Value) (n : Nat) (dd : Option Addr) (sl : Array (Option Value)) (u : Tok) :
    Meets (Builtin.«tuple.__mul__» ⟨[.ref l, .int 1 u], []⟩) (fun _ R s => s.heap.get? l = some { cls := .type "tuple", dict := dd, data := .seq items n, slots := sl } ∧ R (.ok (.ret (Value.ref l))) s) :=
  .of_wp fun prog w A R s h => by
    obtain ⟨hp, g, d, tk, os⟩ := s
    obtain ⟨hl, h⟩ := h
    have f1 := AutoSeq1.idx_int
    wp_walk using wpAny_loadPart' hl
    exact ⟨_, rfl, h⟩
def rRepTA (K : PySem.W.Frag) : R2 := fun x y H Q => ∃ l k xs, x = .ref l ∧ y = .int k ∧ SqT K H l xs ∧ xs ≠ [] ∧ 1 ≤ k ∧ k ≤ 1000 ∧ xs.length ≤ 1000 ∧ (k = 1 → Q (.ref l) H) ∧ (k ≠ 1 → ∀ p, H p = none → Q (.ref p) (upd H p (.tup (List.replicate k.toNat xs).flatten)))
theorem op_repTA : OpR X (binaryOp .Mult) (rRepTA X.K) := by
  intro pins s σ H x y v u Q I rx ry h
  obtain ⟨l, k, xs, rfl, rfl, hT, hne, h1, h2, hz, q1, q2⟩ := h
  by_cases hk : k = 1
  · subst hk
    cases rx
    obtain ⟨t, rfl⟩ := ry
    obtain ⟨its, r, ⟨⟨cls, dd, data, sl⟩, ho, hc, n, hd⟩, hs⟩ := I.tuple hT
    simp only at hc hd
    subst hc hd
    refine wpAny_binaryOp_repeat_ref (T := "tuple") (U := "int") (by decide) ⟨_, ho, rfl⟩ (fun s' => typeIs_int s' 1 t) noFill_tuple_mul F.fills_int_mul F.slot_int_rmul repeat_tuple F.slot_int_index.lookup
      (call_meets F.slot_int_rmul (typeIs_int s 1 t) F.entry_int_rmul (F.args_int_rmul_2 _ _) (int_rmul_tuple 1 t l its.toArray n dd sl)
        ⟨ho, rfl, ⟨_, ho, rfl⟩, call_meets F.slot_tuple_mul ⟨_, ho, rfl⟩ F.entry_tuple_mul (F.args_tuple_mul_2 _ _) (tuple_mul1 l its.toArray n dd sl t) ⟨ho, ?_⟩⟩)
    exact ⟨.ref l, H, I, rfl, q1 rfl⟩
  · exact op_repT pins s σ H _ _ v u Q I rx ry ⟨l, k, xs, rfl, rfl, hT, hne, by omega, h2, hz, q2 hk⟩
theorem so_repT : SO ρ X.K T Bx.rRepT (rRepTA X.K) := fun Hs H v w x y P Q l r1 r2 ⟨xs, m, ex, ey, h0, h1, h2, h3, hp⟩ k => by
  subst ex ey
  obtain ⟨a, vs, ev, ha, hr⟩ := rv_tup r1
  refine ⟨a, m, vs, ev, rv_int r2, ha, fun z => ?_, h1, h2, by rw [hr.length]; exact h3, fun e => ?_, fun e p hq => ?_⟩
  · subst z
    exact h0 (List.eq_nil_of_length_eq_zero hr.length.symm)
  · subst e
    have eq : (List.replicate (1 : Int).toNat xs).flatten = xs := by simp
    rw [eq] at hp
    exact k _ H _ hp .refl (RD.tup ha hr)
  · have e2 : Ext ρ T H (upd H p (.tup (List.replicate m.toNat vs).flatten)) := .new hq
    exact k _ _ _ hp e2 (RD.tup (.inl (.inl upd_same)) ((hr.rep m.toNat).ext e2 l))
theorem pd_repT (ha : PE X a (liE ρ X.K T H0 da)) (hb : PE X b (liE ρ X.K T H0 db)) : PE X (.BinOp a .Mult b pos) (liE ρ X.K T H0 (dOp Bx.rRepT da db)) := pd_op op_repTA so_repT ha hb
end
end Bx
/-! Bx7: defs over data, their calls; tests -/
namespace Bx
open PySem PySem.Spec PyProof.Rows L2
open LamX (Tabs)
/-- the def x keeps the promise S of n arguments -/
structure OkD (P : Program) (w : World) (K : PySem.W.Frag) (mg : Str → Option Value) (base : Heap) (T : Tb) (x : Str) (k n : Nat) (S : DF) : Prop where
  ex : ∃ (f : Addr) (fd : FuncData) (ps : List Str), mg x = some (.ref f) ∧ PySem.W.keepIn K (.ref f) = true ∧ Binds K fd ps [] ∧ FnOk P w K mg base CX0 k f fd ps (spD K T n S)
abbrev FnP (K : PySem.W.Frag) (x : Str) (st : Stmt) (f : Addr) (fd : FuncData) : Prop := FunD K x x (defArgs st) (defBody st) (defScope st) [] [] f fd
/-- where the def x stands -/
def Src (K : PySem.W.Frag) (mg : Str → Option Value) (x : Str) (st : Stmt) : Prop := ∃ (f : Addr) (fd : FuncData), mg x = some (.ref f) ∧ FnP K x st f fd
section
variable {P : Program} {w : World} {K : PySem.W.Frag} {mg : Str → Option Value} {base : Heap} {T : Tb} {x : Str} {st : Stmt} {N ps : List Str} {k n : Nat} {S S' : DF}
theorem OkD.imp (F : OkD P w K mg base T x k n S) (h : ∀ xs Q, xs.length = n → S' xs Q → S xs Q) : OkD P w K mg base T x k n S' := by
  obtain ⟨f, fd, ps, h1, h2, h3, h4⟩ := F.ex
  exact ⟨f, fd, ps, h1, h2, h3, h4.imp fun vs H Q E ⟨ρ, xs, Pq, a, b, c, d⟩ => ⟨ρ, xs, Pq, a, b, h _ _ b c, d⟩⟩
theorem OkD.mono (F : OkD P w K mg base T x k n S) {j : Nat} (h : k ≤ j) : OkD P w K mg base T x j n S := by
  obtain ⟨f, fd, ps, h1, h2, h3, h4⟩ := F.ex
  exact ⟨f, fd, ps, h1, h2, h3, h4.mono h⟩
abbrev cxD (P : Program) (w : World) (K : PySem.W.Frag) (mg : Str → Option Value) (base : Heap) (N : List Str) (x : Str) (st : Stmt) (f : Addr) (cdv : Value) (A : Around) (outer : List Env) (s : Shared) (H : Hp) (E : XK) : Cx := (cxOf CX0 P w K mg base N x (defScope st) f cdv A outer s H E).nox
theorem start_at {vs : List V} {N : List Str} {i : Nat} {v : V} (h : vs[i]? = some v) : (L2.start N vs)[i]? = some (some v) := by
  unfold L2.start
  have hi : i < vs.length := (List.getElem?_eq_some_iff.mp h).1
  rw [List.getElem?_append_left (by rw [List.length_map]; exact hi), List.getElem?_map, h]
  rfl
theorem start_er {ρ : Option Addr} {H : Hp} {vs : List V} {xs : List Val} (a : AR ρ K T H vs xs) : ER ρ K T H H (L2.start N vs) (startD N.length xs) where
  len := by
    unfold L2.start startD
    rw [List.length_append, List.length_append, List.length_map, List.length_map, List.length_replicate, List.length_replicate, a.rv.length]
  sl := fun i x h => by
    unfold startD at h
    by_cases hi : i < xs.length
    · rw [List.getElem?_append_left (by rw [List.length_map]; exact hi), List.getElem?_map] at h
      obtain ⟨y, hy, e⟩ := Option.map_eq_some_iff.mp h
      cases e
      have go : ∀ {vs : List V} {xs : List Val} {i : Nat} {y : Val}, RVs ρ K H H vs xs → xs[i]? = some y → ∃ v, vs[i]? = some v ∧ RV ρ K H H v y := by
        intro vs xs i y r
        induction r generalizing i with
        | nil => intro h; simp at h
        | cons p q ih =>
          intro h
          cases i with
          | zero => simp at h; subst h; exact ⟨_, rfl, p⟩
          | succ i =>
            obtain ⟨v, h1, h2⟩ := ih (by simpa using h)
            exact ⟨v, by simpa using h1, h2⟩
      obtain ⟨v, h1, h2⟩ := go a.rv hy
      refine ⟨v, start_at h1, h2, ?_⟩
      cases x with
      | s ns =>
        obtain ⟨b, e, hs⟩ := h2
        intro c hc
        rw [e] at hc
        cases hc
        exact hs
      | _ => trivial
    · rw [List.getElem?_append_right (by rw [List.length_map]; omega)] at h
      have := List.mem_of_getElem? h
      exact absurd (List.eq_of_mem_replicate this) (by simp)
  ap := fun i j x y v n h1 h2 m1 m2 s1 s2 => by
    unfold startD at h1
    by_cases hi : i < xs.length
    · rw [List.getElem?_append_left (by rw [List.length_map]; exact hi), List.getElem?_map] at h1
      obtain ⟨z, hz, e⟩ := Option.map_eq_some_iff.mp h1
      cases e
      exact a.nm _ (List.mem_of_getElem? hz) m1
    · rw [List.getElem?_append_right (by rw [List.length_map]; omega)] at h1
      have := List.mem_of_getElem? h1
      exact absurd (List.eq_of_mem_replicate this) (by simp)
  ext := .refl
  live := a.live
  tab := a.tab
/-- a def by its body's reading -/
theorem OkD.mk' {b : DS} (F : Src K mg x st) (sc : FnScope N ps (defScope st)) (hb : ∀ (kV doc pm : Value) (an : Option Addr) (cdv ct : Value) (us : List Value), us.length = ps.length → bindArgs (PySem.W.fnOf x x (defArgs st) (defBody st) (defScope st) .none kV doc pm an cdv ct) ⟨us, []⟩ = pure (ps.zip us))
    (h : ∀ (f : Addr) (cdv : Value) (A : Around) (outer : List Env) (s : Shared) (H : Hp) (E : XK) (ρ : Option Addr) (H0 : Hp), Room k (cxD P w K mg base N x st f cdv A outer s H E).A → PSs (cxD P w K mg base N x st f cdv A outer s H E) (defBody st) (liS ρ K T H0 b))
    (hn : ps.length = n) (hs : ∀ xs Q, xs.length = n → S xs Q → defD N.length b xs Q) : OkD P w K mg base T x (k + 1) n S := by
  obtain ⟨f, fd, h1, F⟩ := F
  refine ⟨f, fd, ps, h1, F.kp, F.bindsN hb, F.ok sc (fun vs H Q E ⟨ρ, xs, Pq, a, b, c, d⟩ => by rw [a.rv.length, b, hn]) fun cdv A outer s H vs Q E hr ⟨ρ, xs, Pq, a, ln, c, d⟩ => ?_⟩
  refine ⟨liS ρ K T H b, PSs.nox (h f cdv A outer s H E ρ H hr), startD N.length xs, _, start_er a, hs xs Pq ln c, fun σ' H' e' q r' _ => ?_, fun v H' y q e r => d v H' y q e r, fun _ _ _ q => q.elim, fun _ _ _ q => q.elim⟩
  exact d .non H' _ q r'.ext RD.non
end
section
variable {X : Cx} {ρ : Option Addr} {T : Tb} {H0 : Hp} {a b c : Expr} {es : List Expr} {pos : Pos} {da db dc : DE} {n : Nat}
theorem pd_fn {x : Str} {p : Pos} {k m : Nat} {S : DF} {d : DA} (F : OkD X.prog X.w X.K X.mg X.base T x k m S) (hr : Room k X.A) (hg : Gl X x)
    (ha : PA X (a :: es) (liA m ρ X.K T H0 d)) (hdb : (x == ("__debug__" : Str)) = false := by decide) (he : starEach (a :: es) X.env = (false, eval a X.env) :: starEach es X.env := by rfl) (hpl : (backTo pos (starEach es X.env)).any (·.1) = false := by rfl) :
    PE X (.Call (.Name x p) (a :: es) [] pos) (liE ρ X.K T H0 (dCall S d)) := by
  obtain ⟨f, fd, ps, h1, h2, h3, h4⟩ := F.ex
  exact pd_call h4 hr hg h1 h2 h3 ha hdb he hpl
/-! tests -/
theorem ptd_lt (ha : PE X a (liE ρ X.K T H0 da)) (hb : PE X b (liE ρ X.K T H0 db)) : PT X (.Compare a [.Lt] [b] pos) (liT ρ X.K T H0 (dT (dOp (rI2 C0 fun i j => .bool (decide (i < j))) da db))) := ptd_cmp op_lt (so_i0 fun _ _ _ _ => .bl _) ha hb (nomark _)
theorem ptd_le (ha : PE X a (liE ρ X.K T H0 da)) (hb : PE X b (liE ρ X.K T H0 db)) : PT X (.Compare a [.LtE] [b] pos) (liT ρ X.K T H0 (dT (dOp (rI2 C0 fun i j => .bool (decide (i ≤ j))) da db))) := ptd_cmp op_le (so_i0 fun _ _ _ _ => .bl _) ha hb (nomark _)
theorem ptd_gt (ha : PE X a (liE ρ X.K T H0 da)) (hb : PE X b (liE ρ X.K T H0 db)) : PT X (.Compare a [.Gt] [b] pos) (liT ρ X.K T H0 (dT (dOp (rI2 C0 fun i j => .bool (decide (j < i))) da db))) := ptd_cmp op_gt (so_i0 fun _ _ _ _ => .bl _) ha hb (nomark _)
theorem ptd_ge (ha : PE X a (liE ρ X.K T H0 da)) (hb : PE X b (liE ρ X.K T H0 db)) : PT X (.Compare a [.GtE] [b] pos) (liT ρ X.K T H0 (dT (dOp (rI2 C0 fun i j => .bool (decide (j ≤ i))) da db))) := ptd_cmp op_ge (so_i0 fun _ _ _ _ => .bl _) ha hb (nomark _)
theorem ptd_in (ha : PE X a (liE ρ X.K T H0 da)) (hb : PE X b (liE ρ X.K T H0 db)) (hm : behindInMarks .In b = false := by rfl) : PT X (.Compare a [.In] [b] pos) (liT ρ X.K T H0 (dT (dOp (Bx.rInS false) da db))) := ptd_cmp op_in_seq so_in ha hb hm
theorem ptd_notin (ha : PE X a (liE ρ X.K T H0 da)) (hb : PE X b (liE ρ X.K T H0 db)) (hm : behindInMarks .NotIn b = false := by rfl) : PT X (.Compare a [.NotIn] [b] pos) (liT ρ X.K T H0 (dT (dOp (Bx.rInS true) da db))) := ptd_cmp op_notIn_seq so_in ha hb hm
theorem ptd_inN (hu : X.A.units + 65 < cLine) (ha : PE X a (liE ρ X.K T H0 da)) (hb : PE X b (liE ρ X.K T H0 db)) (hm : behindInMarks .In b = false := by rfl) : PT X (.Compare a [.In] [b] pos) (liT ρ X.K T H0 (dT (dOp rInN da db))) := ptd_cmp (op_inN hu) so_inN ha hb hm
theorem ptd_ltD (hu : X.A.units + 64 < cLine) (ha : PE X a (liE ρ X.K T H0 da)) (hb : PE X b (liE ρ X.K T H0 db)) : PT X (.Compare a [.Lt] [b] pos) (liT ρ X.K T H0 (dT (dOp rLtD da db))) := ptd_cmp (op_ltD hu) so_ord ha hb (nomark _)
theorem ptd_gtD (hu : X.A.units + 64 < cLine) (ha : PE X a (liE ρ X.K T H0 da)) (hb : PE X b (liE ρ X.K T H0 db)) : PT X (.Compare a [.Gt] [b] pos) (liT ρ X.K T H0 (dT (dOp rGtD da db))) := ptd_cmp (op_gtD hu) so_ord ha hb (nomark _)
theorem ptd_leD (hu : X.A.units + 64 < cLine) (ha : PE X a (liE ρ X.K T H0 da)) (hb : PE X b (liE ρ X.K T H0 db)) : PT X (.Compare a [.LtE] [b] pos) (liT ρ X.K T H0 (dT (dOp rLeD da db))) := ptd_cmp (op_leD hu) so_ord ha hb (nomark _)
theorem ptd_eq (hu : X.A.units + 64 < cLine) (ha : PE X a (liE ρ X.K T H0 da)) (hb : PE X b (liE ρ X.K T H0 db)) : PT X (.Compare a [.Eq] [b] pos) (liT ρ X.K T H0 (dT (dOp (Bx.rEq false) da db))) := ptd_cmp (op_eqY hu) so_eq ha hb (nomark _)
theorem ptd_ne (hu : X.A.units + 64 < cLine) (ha : PE X a (liE ρ X.K T H0 da)) (hb : PE X b (liE ρ X.K T H0 db)) : PT X (.Compare a [.NotEq] [b] pos) (liT ρ X.K T H0 (dT (dOp (Bx.rEq true) da db))) := ptd_cmp (op_neY hu) so_eq ha hb (nomark _)
theorem ptd_inD (hu : X.A.units + 1 < cLine) (ha : PE X a (liE ρ X.K T H0 da)) (hb : PE X b (liE ρ X.K T H0 db)) (hm : behindInMarks .In b = false := by rfl) : PT X (.Compare a [.In] [b] pos) (liT ρ X.K T H0 (dT (dOp rInD da db))) :=
  PTw (pt_cmp (pc_din hu ha hb) hm) fun σ H Q ⟨e, P, q, p, k⟩ => ⟨e, _, q, p, fun v H1 x hx e1 r1 => ⟨e, _, q.to e1, hx, fun w H2 y hy e2 r2 => by
    obtain ⟨n, f, ex, hf, c, ec, hp⟩ := hy
    subst ex
    obtain ⟨a, kvs, ev, nρ, ha, hr⟩ := rv_dic r2 hf
    refine ⟨a, valV kvs (Sum.inl n), ev, ?_, c, ?_, k _ H2 hp (e1.trans e2)⟩
    · rw [rv_int r1]
      exact DGet.k (k := Sum.inl n) ha
    · injection ec with ec
      injection ec with ec
      rw [rf_is hr n, ec]⟩⟩
theorem ptd_eqZ {op : CmpOp} {neg : Bool} (h : PE X (.Compare a [op] [b] pos) (liE ρ X.K T H0 da)) (hc : PC X op a b (liE ρ X.K T H0 da)) (h1 : behindInMarks op b = false) : PT X (.Compare a [op] [b] pos) (liT ρ X.K T H0 (dT da)) := ptd_cmp1 h hc h1
theorem ptd_isN {j pos'} (ha : PE X a (liE ρ X.K T H0 da)) : PT X (.Compare a [.Is] [.Constant .none j pos'] pos) (liT ρ X.K T H0 (dT (dIsN false da))) :=
  PTw (pt_cmp (pc_isN ha) rfl) fun σ H Q ⟨e, P, q, p, k⟩ => ⟨e, _, q, p, fun v H1 x ⟨c, ex, hx⟩ e1 r1 => by
    injection ex with ex
    injection ex with ex
    rw [rv_isN r1]
    refine ⟨_, rfl, k _ H1 ?_ e1⟩
    rw [← ex] at hx
    exact hx⟩
theorem ptd_notN {j pos'} (ha : PE X a (liE ρ X.K T H0 da)) : PT X (.Compare a [.IsNot] [.Constant .none j pos'] pos) (liT ρ X.K T H0 (dT (dIsN true da))) :=
  PTw (pt_cmp (pc_notN ha) rfl) fun σ H Q ⟨e, P, q, p, k⟩ => ⟨e, _, q, p, fun v H1 x ⟨c, ex, hx⟩ e1 r1 => by
    injection ex with ex
    injection ex with ex
    rw [rv_isN r1]
    refine ⟨_, rfl, k _ H1 ?_ e1⟩
    rw [← ex] at hx
    exact hx⟩
end
end Bx
namespace Bx
open PySem PySem.Spec PyProof.Rows L2
open LamX (Tabs)
/-- the built-in names stand -/
structure Bi (mg : Str → Option Value) : Prop where
  len : mg "len" = none
  zip : mg "zip" = none
  all : mg "all" = none
  any : mg "any" = none
  tuple : mg "tuple" = none
  list : mg "list" = none
  dict : mg "dict" = none
  sorted : mg "sorted" = none
  sum : mg "sum" = none
  min : mg "min" = none
  max : mg "max" = none
  abs : mg "abs" = none
  int : mg "int" = none
  isinstance : mg "isinstance" = none
  range : mg "range" = none
  bool : mg "bool" = none
  str : mg "str" = none
section
variable {X : Cx} {ρ : Option Addr} {T : Tb} {H0 : Hp} {a b c : Expr} {pos p : Pos} {da db dc : DE}
theorem pd_len (bi : Bi X.mg) (ha : PE X a (liE ρ X.K T H0 da)) (hg : Gl X "len" := by rfl) (he : starEach [a] X.env = (false, eval a X.env) :: starEach [] X.env := by rfl) : PE X (.Call (.Name "len" p) [a] [] pos) (liE ρ X.K T H0 (dF fLen (dCons da dNil))) := pd_callB call_len_seq sc_len hg bi.len PySem.boot_len (pda_cons ha pda_nil he) (by decide) (by decide) he rfl
theorem pd_abs (bi : Bi X.mg) (ha : PE X a (liE ρ X.K T H0 da)) (hg : Gl X "abs" := by rfl) (he : starEach [a] X.env = (false, eval a X.env) :: starEach [] X.env := by rfl) : PE X (.Call (.Name "abs" p) [a] [] pos) (liE ρ X.K T H0 (dF fAbs (dCons da dNil))) := pd_callB call_abs sc_abs hg bi.abs PyProof.Rows.boot_abs (pda_cons ha pda_nil he) (by decide) (by decide) he rfl
theorem pd_intc (bi : Bi X.mg) (ha : PE X a (liE ρ X.K T H0 da)) (hg : Gl X "int" := by rfl) (he : starEach [a] X.env = (false, eval a X.env) :: starEach [] X.env := by rfl) : PE X (.Call (.Name "int" p) [a] [] pos) (liE ρ X.K T H0 (dF fInt (dCons da dNil))) := pd_callTy call_int1 sc_int hg bi.int PyProof.Rows.boot_int (pda_cons ha pda_nil he) (by decide) (by decide) he rfl
theorem pd_sum (hc : X.calm = true) (bi : Bi X.mg) (ha : PE X a (liE ρ X.K T H0 da)) (hg : Gl X "sum" := by rfl) (he : starEach [a] X.env = (false, eval a X.env) :: starEach [] X.env := by rfl) : PE X (.Call (.Name "sum" p) [a] [] pos) (liE ρ X.K T H0 (dF fSum (dCons da dNil))) := pd_callB (cr_sum hc) sc_sum hg bi.sum PyProof.Rows.boot_sum (pda_cons ha pda_nil he) (by decide) (by decide) he rfl
theorem pd_all (hc : X.calm = true) (bi : Bi X.mg) (ha : PE X a (liE ρ X.K T H0 da)) (hg : Gl X "all" := by rfl) (he : starEach [a] X.env = (false, eval a X.env) :: starEach [] X.env := by rfl) : PE X (.Call (.Name "all" p) [a] [] pos) (liE ρ X.K T H0 (dF fAll (dCons da dNil))) := pd_callB (cr_all hc) sc_all hg bi.all PyProof.Rows.boot_all (pda_cons ha pda_nil he) (by decide) (by decide) he rfl
theorem pd_any (hc : X.calm = true) (bi : Bi X.mg) (ha : PE X a (liE ρ X.K T H0 da)) (hg : Gl X "any" := by rfl) (he : starEach [a] X.env = (false, eval a X.env) :: starEach [] X.env := by rfl) : PE X (.Call (.Name "any" p) [a] [] pos) (liE ρ X.K T H0 (dF fAny (dCons da dNil))) := pd_callB (cr_any hc) sc_any hg bi.any PyProof.Rows.boot_any (pda_cons ha pda_nil he) (by decide) (by decide) he rfl
theorem pd_tuple (bi : Bi X.mg) (ha : PE X a (liE ρ X.K T H0 da)) (hg : Gl X "tuple" := by rfl) (he : starEach [a] X.env = (false, eval a X.env) :: starEach [] X.env := by rfl) : PE X (.Call (.Name "tuple" p) [a] [] pos) (liE ρ X.K T H0 (dF fTuple (dCons da dNil))) := pd_callTy call_tuple_of sc_tuple hg bi.tuple PyProof.Rows.boot_tuple (pda_cons ha pda_nil he) (by decide) (by decide) he rfl
theorem pd_list (bi : Bi X.mg) (ha : PE X a (liE ρ X.K T H0 da)) (hg : Gl X "list" := by rfl) (he : starEach [a] X.env = (false, eval a X.env) :: starEach [] X.env := by rfl) : PE X (.Call (.Name "list" p) [a] [] pos) (liE ρ X.K T H0 (dF fList (dCons da dNil))) := pd_callTy call_list_of sc_list hg bi.list PyProof.Rows.boot_list (pda_cons ha pda_nil he) (by decide) (by decide) he rfl
theorem pd_dict (hc : X.calm = true) (bi : Bi X.mg) (ha : PE X a (liE ρ X.K T H0 da)) (hg : Gl X "dict" := by rfl) (he : starEach [a] X.env = (false, eval a X.env) :: starEach [] X.env := by rfl) : PE X (.Call (.Name "dict" p) [a] [] pos) (liE ρ X.K T H0 (dF fDict (dCons da dNil))) := pd_callTy (call_dictP hc) sc_dict hg bi.dict PyProof.Rows.boot_dict (pda_cons ha pda_nil he) (by decide) (by decide) he rfl
theorem pd_sorted (hu : X.A.units + 64 < cLine) (bi : Bi X.mg) (ha : PE X a (liE ρ X.K T H0 da)) (hg : Gl X "sorted" := by rfl) (he : starEach [a] X.env = (false, eval a X.env) :: starEach [] X.env := by rfl) : PE X (.Call (.Name "sorted" p) [a] [] pos) (liE ρ X.K T H0 (dF fSorted (dCons da dNil))) := pd_callB (cr_sortD hu) sc_sort hg bi.sorted PyProof.Rows.boot_sorted (pda_cons ha pda_nil he) (by decide) (by decide) he rfl
theorem pd_minL (hc : X.calm = true) (bi : Bi X.mg) (ha : PE X a (liE ρ X.K T H0 da)) (hg : Gl X "min" := by rfl) (he : starEach [a] X.env = (false, eval a X.env) :: starEach [] X.env := by rfl) : PE X (.Call (.Name "min" p) [a] [] pos) (liE ρ X.K T H0 (dF fMinL (dCons da dNil))) := pd_callB (cr_min hc) sc_minL hg bi.min PyProof.Rows.boot_min (pda_cons ha pda_nil he) (by decide) (by decide) he rfl
theorem pd_maxL (hc : X.calm = true) (bi : Bi X.mg) (ha : PE X a (liE ρ X.K T H0 da)) (hg : Gl X "max" := by rfl) (he : starEach [a] X.env = (false, eval a X.env) :: starEach [] X.env := by rfl) : PE X (.Call (.Name "max" p) [a] [] pos) (liE ρ X.K T H0 (dF fMaxL (dCons da dNil))) := pd_callB (cr_max hc) sc_maxL hg bi.max PyProof.Rows.boot_max (pda_cons ha pda_nil he) (by decide) (by decide) he rfl
theorem pd_min2 (hc : X.calm = true) (bi : Bi X.mg) (ha : PE X a (liE ρ X.K T H0 da)) (hb : PE X b (liE ρ X.K T H0 db)) (hg : Gl X "min" := by rfl) (he : starEach [a, b] X.env = (false, eval a X.env) :: starEach [b] X.env := by rfl) (he2 : starEach [b] X.env = (false, eval b X.env) :: starEach [] X.env := by rfl) (hpl : (backTo pos (starEach [b] X.env)).any (·.1) = false := by rfl) : PE X (.Call (.Name "min" p) [a, b] [] pos) (liE ρ X.K T H0 (dF fMin2 (dCons da (dCons db dNil)))) := pd_callB (call_min2 hc) sc_min2 hg bi.min PyProof.Rows.boot_min (pda_cons ha (pda_cons hb pda_nil he2) he) (by decide) (by decide) he hpl
theorem pd_max2 (hc : X.calm = true) (bi : Bi X.mg) (ha : PE X a (liE ρ X.K T H0 da)) (hb : PE X b (liE ρ X.K T H0 db)) (hg : Gl X "max" := by rfl) (he : starEach [a, b] X.env = (false, eval a X.env) :: starEach [b] X.env := by rfl) (he2 : starEach [b] X.env = (false, eval b X.env) :: starEach [] X.env := by rfl) (hpl : (backTo pos (starEach [b] X.env)).any (·.1) = false := by rfl) : PE X (.Call (.Name "max" p) [a, b] [] pos) (liE ρ X.K T H0 (dF fMax2 (dCons da (dCons db dNil)))) := pd_callB (call_max2 hc) sc_max2 hg bi.max PyProof.Rows.boot_max (pda_cons ha (pda_cons hb pda_nil he2) he) (by decide) (by decide) he hpl
theorem pd_max3 (hc : X.calm = true) (bi : Bi X.mg) (ha : PE X a (liE ρ X.K T H0 da)) (hb : PE X b (liE ρ X.K T H0 db)) (hc' : PE X c (liE ρ X.K T H0 dc)) (hg : Gl X "max" := by rfl) (he : starEach [a, b, c] X.env = (false, eval a X.env) :: starEach [b, c] X.env := by rfl) (he2 : starEach [b, c] X.env = (false, eval b X.env) :: starEach [c] X.env := by rfl) (he3 : starEach [c] X.env = (false, eval c X.env) :: starEach [] X.env := by rfl) (hpl : (backTo pos (starEach [b, c] X.env)).any (·.1) = false := by rfl) : PE X (.Call (.Name "max" p) [a, b, c] [] pos) (liE ρ X.K T H0 (dF fMax3 (dCons da (dCons db (dCons dc dNil))))) := pd_callB (cr_max3 hc) sc_max3 hg bi.max PyProof.Rows.boot_max (pda_cons ha (pda_cons hb (pda_cons hc' pda_nil he3) he2) he) (by decide) (by decide) he hpl
theorem pd_isi {x : Str} {nm : String} {p2 : Pos} (bi : Bi X.mg) (ha : PE X a (liE ρ X.K T H0 da)) (hb : PE X (.Name x p2) (liE ρ X.K T H0 (dTy nm))) (hg : Gl X "isinstance" := by rfl) (he : starEach [a, .Name x p2] X.env = (false, eval a X.env) :: starEach [.Name x p2] X.env := by rfl) (he2 : starEach [.Name x p2] X.env = (false, eval (.Name x p2) X.env) :: starEach [] X.env := by rfl) (hpl : (backTo pos (starEach [.Name x p2] X.env)).any (·.1) = false := by rfl) : PE X (.Call (.Name "isinstance" p) [a, .Name x p2] [] pos) (liE ρ X.K T H0 (dF fIsi (dCons da (dCons (dTy nm) dNil)))) := pd_callB call_isi sc_isi hg bi.isinstance PyProof.Rows.boot_isinstance (pda_cons ha (pda_cons hb pda_nil he2) he) (by decide) (by decide) he hpl
end
end Bx
namespace Bx
open PySem PySem.Spec PyProof.Rows L2
open LamX (Tabs)
/-- the two modules' EMPTY -/
structure Bg (K : PySem.W.Frag) (mg : Str → Option Value) : Prop where
  x : ∃ u v : Addr, mg "EMPTY_boxes" = some (.ref u) ∧ mg "EMPTY_covers" = some (.ref v) ∧ (∀ H, SqT K H u [.int 1, .int 0]) ∧ ∀ H, SqT K H v [.int 1, .int 0]
def blkB (N : List Str) (sc scope : Scope) (own : List (Str × Nat)) : Bool :=
  decide (scope.kind = .function) && scope.names.all (fun y => decide (scope.names.lookup y.1 = some y.2)) && own.all (fun p => decide (N[p.2]? = some p.1)) &&
    scope.names.all (fun y => !decide (y.2 = .free) || decide (sc.names.lookup y.1 = some .cell) || decide (sc.names.lookup y.1 = some .free)) &&
    scope.names.all fun y => !(decide (y.2 = .local) || decide (y.2 = .cell)) || decide (y.1 ∈ own.map (·.1)) || !decide (y.1 ∈ N)
theorem blkOk_of {N : List Str} {sc scope : Scope} {own : List (Str × Nat)} (h : blkB N sc scope own = true) : BlkOk N sc scope own := by
  unfold blkB at h
  simp only [Bool.and_eq_true, List.all_eq_true, decide_eq_true_eq, Bool.or_eq_true, Bool.not_eq_true', decide_eq_false_iff_not, Bool.or_eq_false_iff] at h
  obtain ⟨⟨⟨⟨h1, h2⟩, h3⟩, h4⟩, h5⟩ := h
  refine ⟨h1, h2, h3, fun y hy hf => ?_, fun y hy hl => ?_⟩
  · rcases h4 y hy with (h | h) | h
    · exact absurd hf h
    · exact .inl h
    · exact .inr h
  · rcases h5 y hy with (h | h) | h
    · exact absurd hl (fun z => z.elim h.1 h.2)
    · exact .inl h
    · exact .inr h
end Bx
namespace Bx
open PySem PySem.Spec PyProof.Rows L2
def top (i : Nat) : Stmt := PySem.Challenge.pw_boxlayers_k52_whole_what_is_taken_tells.main.body.getD i (.Pass ⟨0, 0, 0, 0⟩)

abbrev s_fits_low : Stmt := top 2
abbrev s_fits_high : Stmt := top 3
abbrev s_fits_span : Stmt := top 4
abbrev s_fits : Stmt := top 5
abbrev s_plain_span : Stmt := top 6
abbrev s_is_crossed : Stmt := top 7
abbrev s_plain_of : Stmt := top 8
abbrev s_plain_box : Stmt := top 9
abbrev s_greater_of : Stmt := top 10
abbrev s_lesser_of : Stmt := top 11
abbrev s_common : Stmt := top 12
abbrev s_lies_within : Stmt := top 13
abbrev s_things_in : Stmt := top 17
abbrev s_by_place : Stmt := top 19
abbrev s_names_of : Stmt := top 22
abbrev s_in_order : Stmt := top 23
abbrev s_answer_of : Stmt := top 27
abbrev s_answer : Stmt := top 28
abbrev s_lies_out : Stmt := top 31
abbrev s_tree_at : Stmt := top 32
abbrev s_by_cover : Stmt := top 33
abbrev s_is_count : Stmt := top 35
abbrev s_is_path : Stmt := top 36
abbrev s_there : Stmt := top 37
abbrev s_is_out : Stmt := top 38
abbrev s_is_in : Stmt := top 39
abbrev s_has_each_once : Stmt := top 40
abbrev s_shows_cover : Stmt := top 41
abbrev s_steps_to : Stmt := top 43
abbrev s_worths_of : Stmt := top 44
abbrev s_key_by : Stmt := top 45
abbrev s_is_name_of : Stmt := top 47
abbrev s_keys_told : Stmt := top 48
abbrev s_is_far : Stmt := top 49
abbrev s_parts_show : Stmt := top 50
abbrev s_shows_drawn : Stmt := top 51
abbrev s__law_left : Stmt := top 53
abbrev s__law_pick : Stmt := top 54
abbrev s__law_house : Stmt := top 55
abbrev s__law_number : Stmt := top 56
abbrev s__law_box : Stmt := top 57
abbrev s__law_kind : Stmt := top 58
abbrev s__law_bounds : Stmt := top 59
abbrev s__law_grown : Stmt := top 60
abbrev s__law_tree : Stmt := top 61
abbrev s__law_plain : Stmt := top 62
abbrev s__law_beyond : Stmt := top 63
abbrev s__law_inside : Stmt := top 64
abbrev s__law_fits : Stmt := top 65
abbrev s__law_steps : Stmt := top 66
abbrev s__law_key : Stmt := top 67
abbrev s__law_ranked : Stmt := top 68
abbrev s__law_at : Stmt := top 69
abbrev s__law_whole : Stmt := top 70
abbrev s__law_there : Stmt := top 71
abbrev s__law_out_right : Stmt := top 72
abbrev s__law_is_cover : Stmt := top 73
abbrev s__law_thing_key : Stmt := top 74
abbrev s__law_show : Stmt := top 75
abbrev s__law_is_paper : Stmt := top 76
abbrev s__law_parted : Stmt := top 77
abbrev s__law_cover_right : Stmt := top 78
abbrev s__law_drawn_right : Stmt := top 79
abbrev s_law : Stmt := top 80
end Bx
namespace Bx
open PySem PySem.Spec PyProof.Rows L2
open LamX (Tabs)
section
variable {X : Cx} {ρ : Option Addr} {T : Tb} {H0 : Hp} {a b c : Expr} {pos p : Pos} {da db dc : DE} {k : Nat}
theorem pd_emptyB (bg : Bg X.K X.mg) (hg : Gl X "EMPTY_boxes" := by rfl) : PE X (.Name "EMPTY_boxes" pos) (liE ρ X.K T H0 (dC (.tuple [.int 1, .int 0]))) := by
  obtain ⟨u, v, h1, h2, h3, h4⟩ := bg.x
  exact pd_glob hg h1 h3 fun H => RDs.ofInts [1, 0]
theorem pd_emptyC (bg : Bg X.K X.mg) (hg : Gl X "EMPTY_covers" := by rfl) : PE X (.Name "EMPTY_covers" pos) (liE ρ X.K T H0 (dC (.tuple [.int 1, .int 0]))) := by
  obtain ⟨u, v, h1, h2, h3, h4⟩ := bg.x
  exact pd_glob hg h2 h4 fun H => RDs.ofInts [1, 0]
end
end Bx
/-! Sk: sorted by key -/
namespace Bx
open PySem PySem.Spec PyProof.Rows L2
open LamX (Tabs)
section
variable {prog : Program} {w : World} {A : Around} {E : Value → Shared → Prop} {s : Shared} {env : Env}
theorem raw_item {x : Str} {p1 p2 p3 : Pos} {kk : Nat} {j : Nat} {t : Addr} {items : Array Value} {v : Value} {Q : Value → Shared → Prop}
    (hv : ∀ Q : Value → Shared → Prop, Q (.ref t) s → wpAny (model prog w) A (eval (.Name x p1) env) Q E s) (ht : s.heap.IsTuple t items) (hj : items[j]? = some v) (hz : items.size ≤ 1000)
    (h : ∀ tk, Q v { s with toks := tk }) (hs : ∀ tk, subscripted (.Constant (.int (j : Int)) kk p2) false (.ref t) (.int (j : Int) tk) = operate [.ref t, .int (j : Int) tk] (getItem (.ref t) (.int (j : Int) tk)) := by intro _; with_unfolding_all rfl) :
    wpAny (model prog w) A (eval (.Subscript (.Name x p1) (.Constant (.int (j : Int)) kk p2) p3) env) Q E s := by
  have hjl : j < items.size := (Array.getElem?_eq_some_iff.mp hj).1
  refine PyProof.Rows.Subscript_ (hv _ (wpAny_Constant_int ?_))
  have ht' : ({ s with toks := s.toks + 1 } : Shared).heap.IsTuple t items := ht
  exact PyProof.Rows.subscriptTail_builtinR (x := v) (Heap.IsTuple.typeIs ht') PyProof.Rows.slot_tuple_getitem.lookup (PyProof.Rows.getItem_tuple (Q := fun r s' => r = v ∧ Q r s') ht (by omega) (by omega) (j := j) (by rw [seqIndex_of (by omega) (by omega)]; simp) hj ⟨rfl, h _⟩) (hs _)
theorem sc_by_place : FnScope ["thing"] ["thing"] (defScope s_by_place) := ⟨rfl, rfl, rfl, by decide +kernel, rfl, by decide +kernel, by decide +kernel⟩
theorem byplace_run {K : PySem.W.Frag} {f : Addr} {fd : FuncData} (F : FnP K "by_place" s_by_place f fd) (hd : A.depth < recursionLimit) (KX : K.In s.heap) (lim : s.heap.NoLimit) {t : Addr} {a b c : Value} {Q : Value → Shared → Prop} (ht : s.heap.IsTuple t #[a, b, c])
    (h : ∀ h' tk q, (∀ b o, s.heap.get? b = some o → h'.get? b = some o) → h'.IsTuple q #[b, a] → Q (.ref q) { s with heap := h', toks := tk }) : wpAny (model prog w) A (call (.ref f) [.ref t]) Q E s := by
  have hb := FunD.bindsA (ps := ["thing"]) F (fun _ _ _ _ _ _ us hl => match us, hl with | [_], _ => rfl) s [.ref t] rfl
  obtain ⟨oc, od, dV, kV, doc, pm, an, cdv, ct, osl, rfl, lk, hcd, _, _⟩ := F.ex
  have S := sc_by_place
  have hkind : ∀ y ∈ (["thing"] : List Str).zip [Value.ref t], (defScope s_by_place).names.lookup y.1 = some .local ∨ ((defScope s_by_place).names.lookup y.1 = some .cell ∧ ((cellsFrom (s.heap.objs.size + 1) (defScope s_by_place).names []).lookup y.1).isSome = true) := fun ⟨n, v⟩ hy => by
    rcases S.par n (List.of_mem_zip hy).1 with q | q
    · exact .inl q
    · exact .inr ⟨q, PySem.W.cellsFrom_some _ _ _ (.inl q)⟩
  refine wpAny_call (codeAny_call_function hd (KX _ _ lk) rfl S.co S.gen rfl (PySem.W.codeRec_of KX hcd) (hb _ _ _ _ ?_))
  refine wpAny_newFunctionEnv_cells S.kind hkind fun env he s1 x => ?_
  subst he
  refine ⟨lim.keeps x.toInCall.keep, codeAny_func ?_⟩
  obtain ⟨h1, tk1, rfl, hk⟩ := x.done
  have ht1 : h1.IsTuple t #[a, b, c] := Heap.IsTuple.at ht fun o e => hk _ _ e
  have nm : ∀ (tk : Nat) {A' : Around} {E' : Value → Shared → Prop} {p1 : Pos} (Q : Value → Shared → Prop), Q (.ref t) { s with heap := h1, toks := tk } → wpAny (model prog w) A' (eval (.Name "thing" p1) (newEnv (defScope s_by_place) s.heap.objs.size mainGlobals (cellsFrom (s.heap.objs.size + 1) (defScope s_by_place).names []) ("by_place" ++ ".<locals>.") (some f) cdv none builtinsNs)) Q E' { s with heap := h1, toks := tk } := fun tk {A' E' p1} Q hq => by
    refine wpAny_Name (wpAny_loadName_local S.kind (by rfl) x.toInCall.ns (by rfl) hq) (by decide)
  refine wpAny_execs_cons (wpAny_Return_some (PySem.wpAny_Tuple_spliced (Calls.spliced_cons (raw_item (j := 1) (fun Q hq => nm _ Q hq) ht1 rfl (show 3 ≤ 1000 by decide) fun tk => Calls.spliced_cons (raw_item (j := 0) (fun Q hq => nm _ Q hq) ht1 rfl (show 3 ≤ 1000 by decide) fun tk => Calls.spliced_nil ⟨(show 2 ≤ sizeLine by decide), ?_⟩)))))
  refine h _ _ _ (fun b o e => Heap.get?_push_of_some _ (hk b o e)) ⟨_, Heap.get?_push_size _ rfl, rfl, _, rfl⟩
/-! data without lists reads with no list -/
mutual
theorem RD.reads {K : PySem.W.Frag} {X : Cx} {pins : List (Addr × Obj)} {σ : L2.St} {H : Hp} (I : Inv X pins σ H s) : ∀ (d : PyData) (v : V) (u : Value), RD X.K H v d → RelV v u → Reads s.heap u d []
  | .none, _, _, h, r => by
    cases h
    cases r
    exact Reads.none
  | .bool b, _, _, h, r => by
    cases h
    cases r
    exact Reads.bool b
  | .int i, _, _, h, r => by
    cases h
    obtain ⟨t, rfl⟩ := r
    exact Reads.int i t
  | .str x, _, _, h, r => by
    cases h with
    | str _ h =>
      obtain ⟨t, rfl⟩ := r
      exact Reads.str x t
  | .tuple ds, _, _, h, r => by
    cases h with
    | tup hs ha =>
      cases r
      obtain ⟨its, rv, ⟨o, ho, hc, n, hd⟩, _⟩ := I.tuple hs
      exact Reads.tuple ho hc hd (RDs.reads (K := K) I ds _ its ha rv)
  | .list _, _, _, h, _ => by cases h
  | .dict _, _, _, h, _ => by cases h
theorem RDs.reads {K : PySem.W.Frag} {X : Cx} {pins : List (Addr × Obj)} {σ : L2.St} {H : Hp} (I : Inv X pins σ H s) : ∀ (ds : List PyData) (vs : List V) (us : List Value), RDs X.K H vs ds → Vals vs us → ReadsAll s.heap us ds []
  | [], _, _, h, r => by
    cases h
    cases r
    exact ReadsAll.nil
  | d :: ds, _, _, h, r => by
    cases h with
    | cons h1 h2 =>
      cases r with
      | cons r1 r2 => exact ReadsAll.cons (RD.reads (K := K) I d _ _ h1 r1) (RDs.reads (K := K) I ds _ _ h2 r2)
end
/-! ### sorted(xs, key=by_place) -/
def rSortP (K : PySem.W.Frag) (f : Addr) : List V → List V → Hp → VK → Prop := fun vs zs H Q => ∃ (a : Addr) (ws : List V) (ds : List PyData), vs = [V.ref a] ∧ zs = [.ref f] ∧ SqL K H a ws ∧ RDs K H ws ds ∧ ds.length ≤ 100000 ∧ (∀ z ∈ ds, isThing z) ∧ PySem.W.AllAlike (ds.map byP) ∧ (∀ z ∈ ds, (byP z).depth ≤ 50) ∧
  ∀ (ws' : List V) (p : Addr), RDs K H ws' (ds.mergeSort (PySem.W.dataLe false byP)) → H p = none → Q (.ref p) (upd H p (.lst ws'))
theorem inv_nolimit {X : Cx} {pins : List (Addr × Obj)} {σ : L2.St} {H : Hp} (I : Inv X pins σ H s) : s.heap.NoLimit := I.mod.nolimit.keeps I.bk
theorem cr_sortP {X : Cx} {k : Nat} {f : Addr} {fd : FuncData} (hr : Room k X.A) (F : FnP X.K "by_place" s_by_place f fd) : CallRK X (.builtin "sorted") [Str.ofString "key"] (rSortP X.K f) := by
  intro pins s σ H vs zs us ws Q I r rz h
  obtain ⟨a, ws0, ds, rfl, rfl, hs, hrd, hz, hth, hal, hdp, q⟩ := h
  obtain rfl := Vals.ref1 r
  obtain rfl := Vals.ref1 rz
  obtain ⟨its, rv, hl, hz'⟩ := I.list hs
  have e := each_of rv hrd
  have hu := hr.un
  refine PySem.W.sorted_key_data (b := false) (f := .ref f) (kw := [(Str.ofString "key", .ref f)]) byP hl.isList e hal (.inl fun d hd => ?_) (by rw [sizeLine_eq]; omega) (fun x hx => ?_) (PyProof.Rows.ksk_s1 _ _) (fun _ => PyProof.Rows.ksk_l1 _ _) (fun x => PyProof.Rows.ksk_t1 f x) (fun v x ⟨v0, rv0, rd0⟩ hx h tk kp => ?_) fun out c h' tk kp hfresh hD hlen eo => ?_
  · obtain ⟨z, hz, rfl⟩ := List.mem_map.mp hd
    obtain ⟨n, p, w, rfl⟩ := hth z hz
    exact ⟨p, [n], rfl⟩
  · have := hdp x hx
    omega
  · obtain ⟨n, p, w, rfl⟩ := hth x hx
    obtain ⟨t, vs, rfl, hT, hrs⟩ := rv_tup (ρ := none) (Hs := H) (show RV none X.K H H v0 (.d (.tuple [n, p, w])) from rd0)
    cases rv0
    cases hrs with
    | cons r1 hrs =>
      cases hrs with
      | cons r2 hrs =>
        cases hrs with
        | cons r3 hrs =>
          cases hrs
          obtain ⟨its3, rv3, ht3, _⟩ := I.tuple hT
          cases rv3 with
          | cons b1 rv3 =>
            cases rv3 with
            | cons b2 rv3 =>
              cases rv3 with
              | cons b3 rv3 =>
                cases rv3
                refine byplace_run (A := X.A.in1.in1) (s := { s with heap := h, toks := tk }) F (show X.A.in1.in1.depth < recursionLimit from hr.depth) (I.kIn.keeps kp) ((inv_nolimit I).keeps kp) (Heap.IsTuple.at ht3 fun o e => kp _ _ e) fun h' tk' q' kp' hq' => ?_
                refine ⟨h', tk', rfl, kp', ?_⟩
                obtain ⟨o, ho, hc, n', hd⟩ := hq'
                refine Reads.tuple ho hc hd (ReadsAll.cons (as := []) (bs := []) ?_ (ReadsAll.cons (as := []) (bs := []) ?_ .nil))
                · exact PyProof.Rows.Reads.keeps (fun b o e => kp' b o (kp b o e)) (RD.reads (K := X.K) I p _ _ r2 b2)
                · exact PyProof.Rows.Reads.keeps (fun b o e => kp' b o (kp b o e)) (RD.reads (K := X.K) I n _ _ r1 b1)
  · obtain ⟨ws', r1, r2⟩ := each_back eo
    have hlen2 : ws'.length ≤ sizeLine := by
      rw [r1.length, hlen, sizeLine_eq]
      omega
    exact ⟨.ref _, upd H (s.heap.objs.size + 1) (.lst ws'), I.laid (t' := tk) kp (Nat.le_succ _) ⟨hlen2, _, c, r1, hD⟩, rfl, q _ _ r2 (I.hok.fresh (Nat.le_succ _))⟩
theorem pd_sortP {X : Cx} {ρ : Option Addr} {T : Tb} {H0 : Hp} {a : Expr} {pos p p2 p3 : Pos} {da : DE} {k : Nat} (hr : Room k X.A) (bp : Src X.K X.mg "by_place" s_by_place) (bi : Bi X.mg) (ha : PE X a (liE ρ X.K T H0 da)) (hg : Gl X "sorted" := by rfl) (hg2 : Gl X "by_place" := by rfl)
    (he : starEach [a] X.env = [(false, eval a X.env)] := by rfl) (hpk : (backToKw pos (keywordEach [⟨some "key", .Name "by_place" p2, p3⟩] X.env)).filterMap (·.1) = [Str.ofString "key"] := by rfl) :
    PE X (.Call (.Name "sorted" p) [a] [⟨some "key", .Name "by_place" p2, p3⟩] pos) (liE ρ X.K T H0 (dSortP da)) := by
  obtain ⟨f, fd, h1, F⟩ := bp
  have pa : PA X [a] (tCons (liE ρ X.K T H0 da) tNil) := pa_cons ha pa_nil he
  have pk : PK X [⟨some "key", .Name "by_place" p2, p3⟩] (tCons (tC (.ref f)) tNil) := pk_cons (pe_glob (v := .ref f) hg2 h1 rfl (by decide)) pk_nil
  refine PEw (pe_callBK (cr_sortP hr F) hg bi.sorted PyProof.Rows.boot_sorted pa pk (by decide) (by decide) (by rw [he]; rfl) (by rw [he]; rfl) (by rfl) (by rfl) hpk) fun σ H Q ⟨e, P, r, h, kk⟩ => ⟨e, _, r, h, fun v H1 x hx e1 r1 => ?_⟩
  obtain ⟨xs, hx, hz, hth, hal, hdp, hp⟩ := hx
  obtain ⟨b, ws, rfl, nρ, hb, hr'⟩ := rv_lst r1 hx
  refine ⟨b, ws, xs, rfl, rfl, SqL.of hb, hr', hz, hth, hal, hdp, fun ws' q hw hq => ?_⟩
  have l1 := e1.live r.live
  have e2 : Ext ρ T H1 (upd H1 q (.lst ws')) := .new hq
  exact kk _ _ _ hp (e1.trans e2) ⟨q, ws', rfl, l1.new hq, e1.fr q (.of hq), upd_same, hw.ext e2 l1⟩
end
end Bx
/-! Lk: sorted by the lambda -/
namespace Bx
open PySem PySem.Spec PyProof.Rows L2
open LamX (Tabs TabB CodeO ExtN)
structure LamSc (scope : Scope) : Prop where
  kind : scope.kind = .function
  co : scope.isCoroutine = false
  gen : scope.isGenerator = false
  cell : ∀ y ∈ scope.names, y.2 ≠ .cell
  tl : scope.names.lookup ("_law_thing" : Str) = some .local
  fl : scope.names.lookup ("_law_i" : Str) = some .free
  fr : ∀ y ∈ scope.names, y.2 = .free → y.1 = ("_law_i" : Str)
section
variable {X : Cx} {pins : List (Addr × Obj)} {σ : L2.St} {H : Hp} {s : Shared}
theorem lam_run (I : Inv X pins σ H s) {A : Around} {E : Value → Shared → Prop} (hd : A.depth < recursionLimit) {f c' : Addr} {pm ctv : Value} {params : Arguments} {scope : Scope} {k1 k2 k3 : Nat} {p1 p2 p3 p4 p5 p6 p7 p8 p9 : Pos} {q : Str}
    (hf : s.heap.get? f = some (PySem.W.kla_obj "<lambda>" q params (.Tuple [.Subscript (.Subscript (.Name "_law_thing" p1) (.Constant (.int 1) k1 p2) p3) (.Name "_law_i" p4) p5, .Subscript (.Name "_law_thing" p6) (.Constant (.int 0) k2 p7) p8] k3 p9) scope (cloFrom X.env.cells scope.names []) pm c' ctv))
    (hco : H c' = some (CodeO c' q)) (hbind : ∀ (q : Str) (body : Expr) (scope : Scope) (cl : List (Str × Addr)) (pm cv ctv v : Value), bindArgs (PySem.W.kla_fn "<lambda>" q params body scope cl pm cv ctv) ⟨[v], []⟩ = pure [(("_law_thing" : Str), v)])
    (S : LamSc scope) {j : Nat} {i : Int} (hN : X.N[j]? = some ("_law_i" : Str)) (hk : X.env.scope.names.lookup ("_law_i" : Str) = some .cell) (hσ : σ[j]? = some (some (.int i))) {h : Heap} {tk : Nat} (kp : ∀ b o, s.heap.get? b = some o → h.get? b = some o)
    {t pa : Addr} {a wv c : Value} {its : Array Value} {ix : Nat} (ht : h.IsTuple t #[a, .ref pa, wv]) (hp : h.IsTuple pa its) (hix : seqIndex? i its.size = some ix) (hc : its[ix]? = some c) (hlo : -(2 ^ 63) ≤ i) (hhi : i < 2 ^ 63) {Q : Value → Shared → Prop}
    (hq : ∀ h' tk r, (∀ b o, h.get? b = some o → h'.get? b = some o) → h'.IsTuple r #[c, a] → Q (.ref r) { s with heap := h', toks := tk }) : wpAny (model X.prog X.w) A (call (.ref f) [.ref t]) Q E { s with heap := h, toks := tk } := by
  -- the captured cell
  obtain ⟨cc, hcc⟩ := I.ok.has "_law_i" (.inl hk)
  obtain ⟨m, hn, hl⟩ := I.loc
  obtain ⟨u, ru, l⟩ := hl j "_law_i" (.int i) hN hσ (.inr (.inl hk))
  obtain ⟨ti, rfl⟩ := ru
  have hcell : s.heap.IsCell cc (some (.int i ti)) := by
    rcases l with ⟨hk', _⟩ | ⟨_, c2, e2, z⟩
    · have hk'' : X.env.scope.names.lookup ("_law_i" : Str) = some .local := hk'
      rw [hk] at hk''
      cases hk''
    · rw [hcc] at e2
      cases e2
      exact z
  have hclo : (cloFrom X.env.cells scope.names []).lookup ("_law_i" : Str) = some cc := by
    have hm : (("_law_i" : Str), NameKind.free) ∈ scope.names := PySem.mem_of_lookup S.fl
    obtain ⟨c2, h2⟩ := mem_lookup (cloFrom_has (cells := X.env.cells) (acc := []) hm)
    rcases cloFrom_mem (PySem.mem_of_lookup h2) with hm2 | ⟨_, e⟩
    · cases hm2
    · rw [h2, e, hcc]
      rfl
  obtain ⟨⟨oc, vs, tq, hoc, hdc, hvc⟩, _, _⟩ := I.hok c' _ hco
  refine wpAny_call (PySem.W.kla_callFunE (s := { s with heap := h, toks := tk }) hd (kp _ _ hf) rfl S.co S.gen rfl ⟨c', oc, vs, tq, rfl, kp _ _ hoc, hdc, hvc⟩ ?_)
  rw [hbind]
  refine wpAny_pure (wpAny_newFunctionEnv (fun y hy => S.cell y hy) (fun y hy => by rw [List.mem_singleton.mp hy]; exact S.tl) (fun h₁ hns hsb => ⟨((inv_nolimit I).keeps kp).fresh _ hsb, ?_⟩) S.kind)
  have kp1 : ∀ b o, h.get? b = some o → h₁.get? b = some o := fun b o e => hsb.extBut b o (Nat.ne_of_lt (Heap.lt_size e)) (Heap.get?_push_of_some _ e)
  have ht1 : h₁.IsTuple t #[a, .ref pa, wv] := Heap.IsTuple.at ht fun o e => kp1 _ _ e
  have hp1 : h₁.IsTuple pa its := Heap.IsTuple.at hp fun o e => kp1 _ _ e
  have hcell1 : h₁.IsCell cc (some (.int i ti)) := by
    obtain ⟨o, ho, hd⟩ := hcell
    exact ⟨o, kp1 _ _ (kp _ _ ho), hd⟩
  refine PySem.W.kla_codeExpr ?_
  have nm : ∀ (tk : Nat) {A' : Around} {E' : Value → Shared → Prop} {pp : Pos} (Q : Value → Shared → Prop), Q (.ref t) { s with heap := h₁, toks := tk } → wpAny (model X.prog X.w) A' (eval (.Name "_law_thing" pp) (newEnv scope h.objs.size mainGlobals (cloFrom X.env.cells scope.names []) (q ++ ".<locals>.") (some f) (.ref c') none builtinsNs)) Q E' { s with heap := h₁, toks := tk } := fun tk {A' E' pp} Q hq => by
    refine wpAny_Name (wpAny_loadName_local S.kind S.tl hns (by rfl) hq) (by decide)
  refine PySem.wpAny_Tuple_spliced (Calls.spliced_cons (PyProof.Rows.Subscript_ (raw_item (j := 1) (fun Q hq => nm _ Q hq) ht1 rfl (show 3 ≤ 1000 by decide) fun tk2 => ?_)))
  refine wpAny_Name (wpAny_loadName_free S.kind S.fl hclo hcell1 ?_ (by decide)) (by decide)
  have hp2 : ({ s with heap := h₁, toks := tk2 } : Shared).heap.IsTuple pa its := hp1
  refine PyProof.Rows.subscriptTail_builtinR (x := c) (Heap.IsTuple.typeIs hp2) PyProof.Rows.slot_tuple_getitem.lookup (PyProof.Rows.getItem_tuple (j := ix) hp1 hlo hhi hix hc ⟨rfl, ?_⟩) (by with_unfolding_all rfl)
  refine Calls.spliced_cons (raw_item (j := 0) (fun Q hq => nm _ Q hq) ht1 rfl (show 3 ≤ 1000 by decide) fun tk3 => Calls.spliced_nil ⟨(show 2 ≤ sizeLine by decide), ?_⟩)
  exact hq _ _ _ (fun b o e => Heap.get?_push_of_some _ (kp1 b o e)) ⟨_, Heap.get?_push_size _ rfl, rfl, _, rfl⟩
theorem ext_lam {ρ : Option Addr} {T : Tb} {H H' : Hp} (e : ExtN H H') (t : Tabs T H') : Ext ρ T H H' where
  st := fun a o h _ m => e a o h m
  rg := fun a _ ⟨x, y, z, h⟩ => ⟨x, y, z, e _ _ h fun _ q => nomatch q⟩
  tb := fun _ => t
  fr := fun a h o q => by
    by_cases ht : ∃ ps, o = .tbl ps
    · exact ht
    · exact h o (e a o q fun ps z => ht ⟨ps, z⟩)
theorem pd_sortL {ρ : Option Addr} {T : Tb} {H0 : Hp} {a : Expr} {pos p p0 p3 lpos : Pos} {da : DE} {k : Nat} {c Pt : Addr} {params : Arguments} {scope : Scope} {k1 k2 k3 : Nat} {p1 p2 p4 p5 p6 p7 p8 p9 : Pos} {j : Nat}
    (hr : Room k X.A) (bi : Bi X.mg) (TB : TabB X.base X.mg c Pt) (hcode : X.env.code = .ref c) (hm : (Pt, X.env.qual ++ "<lambda>") ∈ T) (hu : ∀ p ∈ T, p.1 = Pt → p.2 = X.env.qual ++ "<lambda>") (ha : PE X a (liE ρ X.K T H0 da))
    (hN : X.N[j]? = some ("_law_i" : Str)) (hk : X.env.scope.names.lookup ("_law_i" : Str) = some .cell) (S : LamSc scope) (hdef : defaultsOf params X.env = ([], []) := by rfl)
    (hbind : ∀ (q : Str) (body : Expr) (scope : Scope) (cl : List (Str × Addr)) (pm cv ctv v : Value), bindArgs (PySem.W.kla_fn "<lambda>" q params body scope cl pm cv ctv) ⟨[v], []⟩ = pure [(("_law_thing" : Str), v)] := by intros; rfl)
    (hg : Gl X "sorted" := by rfl) (he : starEach [a] X.env = [(false, eval a X.env)] := by rfl)
    (hpk : (backToKw pos (keywordEach [⟨some "key", .Lambda params (.Tuple [.Subscript (.Subscript (.Name "_law_thing" p1) (.Constant (.int 1) k1 p2) p3) (.Name "_law_i" p4) p5, .Subscript (.Name "_law_thing" p6) (.Constant (.int 0) k2 p7) p8] k3 p9) scope lpos, p0⟩] X.env)).filterMap (·.1) = [Str.ofString "key"] := by rfl) :
    PE X (.Call (.Name "sorted" p) [a] [⟨some "key", .Lambda params (.Tuple [.Subscript (.Subscript (.Name "_law_thing" p1) (.Constant (.int 1) k1 p2) p3) (.Name "_law_i" p4) p5, .Subscript (.Name "_law_thing" p6) (.Constant (.int 0) k2 p7) p8] k3 p9) scope lpos, p0⟩] pos) (liE ρ X.K T H0 (dSortL da j)) := by
  refine ⟨fun pins s σ H Q I h => ?_⟩
  obtain ⟨e, P, r, h, kk⟩ := h
  have pa : PA X [a] (tCons (liE ρ X.K T H0 da) tNil) := pa_cons ha pa_nil he
  refine wpAny_Call_Name_kw (ld_blt I hg bi.sorted PyProof.Rows.boot_sorted ?_ (by decide) (by decide))
  refine PyProof.Rows.callWith_kw (thn (pa.run pos pins s σ H (fun vs H1 => ∃ v x, vs = [v] ∧ (∃ i xs, e[j]? = some (some (.d (.int i))) ∧ x.lst = some xs ∧ xs.length ≤ 100000 ∧ (∀ z ∈ xs, isThingI i z) ∧ PySem.W.AllAlike (xs.map (byL i)) ∧ (∀ z ∈ xs, (byL i z).depth ≤ 50) ∧ P (.o (xs.mergeSort (PySem.W.dataLe false (byL i))))) ∧ Ext ρ T H H1 ∧ RV ρ X.K H H1 v x) I
    ⟨e, _, r, h, fun v H1 x hx e1 r1 => ⟨v, x, rfl, hx, e1, r1⟩⟩) fun us s1 ⟨vs, H1, I1, rr, v, x, hv, hx, e1, r1⟩ => ?_) (by rw [he]; rfl) (by rw [he]; rfl) (by rfl) (by rfl)
  subst hv
  obtain ⟨i, xs, hi, hlst, hz, hth, hal, hdp, hp⟩ := hx
  obtain ⟨b, ws, rfl, nρ, hb, hrd⟩ := rv_lst r1 hlst
  obtain rfl := Vals.ref1 rr
  obtain ⟨vi, hσ, hri, _⟩ := r.sl j _ hi
  have evi := rv_int hri
  subst evi
  rw [hpk]
  refine wpAny_evalAll_cons (wpAny_bind (LamX.lam_make2 I1 TB hcode hm hu (r.to e1).tab hdef (fun y hy hy2 => by rw [S.fr y hy hy2]; exact I.ok.has _ (.inl hk)) fun f c' pm ctv H2 s2 I2 eN T2 hf hfn hfr hco => wpAny_bind (wpAny_standAt (wpAny_pure (wpAny_evalAll_nil ?_)))))
  have eL : Ext ρ T H1 H2 := ext_lam eN T2
  have l1 : Live ρ H1 := e1.live r.live
  have hb2 : H2 b = some (.lst ws) := eN _ _ hb fun _ z => nomatch z
  have hrd2 : RDs X.K H2 ws xs := hrd.ext eL l1
  obtain ⟨its, rv, hl, hz'⟩ := I2.list (SqL.of hb2)
  have ee := each_of rv hrd2
  have hun := hr.un
  refine PySem.W.sorted_key_data (b := false) (f := .ref f) (kw := [(Str.ofString "key", .ref f)]) (byL i) hl.isList ee hal (.inl fun d hd => ?_) (by rw [sizeLine_eq]; omega) (fun x hx => ?_) (PyProof.Rows.ksk_s1 _ _) (fun _ => PyProof.Rows.ksk_l1 _ _) (fun x => PyProof.Rows.ksk_t1 f x) (fun v x ⟨v0, rv0, rd0⟩ hx h tk kp => ?_) fun out cc h' tk kp hfresh hD hlen eo => ?_
  · obtain ⟨z, hz, rfl⟩ := List.mem_map.mp hd
    obtain ⟨n, ps, w, c1, rfl, hat⟩ := hth z hz
    exact ⟨c1, [n], by simp only [byL, hat]⟩
  · have := hdp x hx
    omega
  · obtain ⟨n, ps, w, c1, rfl, hat⟩ := hth x hx
    have hby : byL i (.tuple [n, .tuple ps, w]) = .tuple [c1, n] := by simp only [byL, hat]
    rw [hby]
    obtain ⟨t, vs, rfl, hT, hrs⟩ := rv_tup (ρ := none) (Hs := H2) (show RV none X.K H2 H2 v0 (.d (.tuple [n, .tuple ps, w])) from rd0)
    cases rv0
    cases hrs with
    | cons q1 hrs =>
      cases hrs with
      | cons q2 hrs =>
        cases hrs with
        | cons q3 hrs =>
          cases hrs
          obtain ⟨its3, rv3, ht3, _⟩ := I2.tuple hT
          cases rv3 with
          | cons b1 rv3 =>
            cases rv3 with
            | cons b2 rv3 =>
              cases rv3 with
              | cons b3 rv3 =>
                cases rv3
                obtain ⟨pa, pvs, rfl, hPT, hprs⟩ := rv_tup (ρ := none) (Hs := H2) (show RV none X.K H2 H2 _ (.d (.tuple ps)) from q2)
                cases b2
                obtain ⟨pits, prv, hpt, hpz⟩ := I2.tuple hPT
                obtain ⟨jx, g1, g2, g3, g4, g5⟩ := atI_get hat
                obtain ⟨vc, hvc, rdc⟩ := hprs.get g2
                obtain ⟨uc, huc, ruc⟩ := prv.get hvc
                have hsz : pits.toArray.size = ps.length := by rw [List.size_toArray, ← prv.length, hprs.length]
                have hsl : ps.length ≤ sizeLine := by rw [← hprs.length]; exact hpz
                rw [sizeLine_eq] at hsl
                refine lam_run (A := X.A.in1.in1) I2 (show X.A.in1.in1.depth < recursionLimit from hr.depth) hf hco hbind S hN hk hσ kp (Heap.IsTuple.at ht3 fun o e => kp _ _ e) (Heap.IsTuple.at hpt fun o e => kp _ _ e) (by rw [hsz]; exact g1) (by simpa using huc) (by omega) (by omega) fun h' tk' q' kp' hq' => ?_
                refine ⟨h', tk', rfl, kp', ?_⟩
                obtain ⟨o, ho, hc, n', hd⟩ := hq'
                refine Reads.tuple ho hc hd (ReadsAll.cons (as := []) (bs := []) ?_ (ReadsAll.cons (as := []) (bs := []) ?_ .nil))
                · exact PyProof.Rows.Reads.keeps (fun b o e => kp' b o (kp b o e)) (RD.reads (K := X.K) I2 c1 _ _ rdc ruc)
                · exact PyProof.Rows.Reads.keeps (fun b o e => kp' b o (kp b o e)) (RD.reads (K := X.K) I2 n _ _ q1 b1)
  · obtain ⟨ws', g1, g2⟩ := each_back eo
    have hlen2 : ws'.length ≤ sizeLine := by
      rw [g1.length, hlen, sizeLine_eq]
      omega
    have hq0 : H2 (s2.heap.objs.size + 1) = none := I2.hok.fresh (Nat.le_succ _)
    have e3 : Ext ρ T H2 (upd H2 (s2.heap.objs.size + 1) (.lst ws')) := .new hq0
    have l2 := eL.live l1
    exact ⟨.ref _, upd H2 (s2.heap.objs.size + 1) (.lst ws'), I2.laid (t' := tk) kp (Nat.le_succ _) ⟨hlen2, _, cc, g1, hD⟩, rfl,
      kk _ _ _ hp ((e1.trans eL).trans e3) ⟨_, ws', rfl, l2.new hq0, (e1.trans eL).fr _ (.of hq0), upd_same, g2.ext e3 l2⟩⟩
end
/-- a def whose code object is known -/
def SrcC (K : PySem.W.Frag) (mg : Str → Option Value) (x : Str) (st : Stmt) (c : Addr) : Prop := ∃ (f : Addr) (fd : FuncData), mg x = some (.ref f) ∧ FnP K x st f fd ∧ fd.code = .ref c
section
variable {P : Program} {w : World} {K : PySem.W.Frag} {mg : Str → Option Value} {base : Heap} {T : Tb} {x : Str} {st : Stmt} {N ps : List Str} {k n : Nat} {S S' : DF} {c : Addr}
theorem OkD.mkC {b : DS} (F : SrcC K mg x st c) (sc : FnScope N ps (defScope st)) (hb : ∀ (kV doc pm : Value) (an : Option Addr) (cdv ct : Value) (us : List Value), us.length = ps.length → bindArgs (PySem.W.fnOf x x (defArgs st) (defBody st) (defScope st) .none kV doc pm an cdv ct) ⟨us, []⟩ = pure (ps.zip us))
    (h : ∀ (f : Addr) (A : Around) (outer : List Env) (s : Shared) (H : Hp) (E : XK) (ρ : Option Addr) (H0 : Hp), Room k (cxD P w K mg base N x st f (.ref c) A outer s H E).A → PSs (cxD P w K mg base N x st f (.ref c) A outer s H E) (defBody st) (liS ρ K T H0 b))
    (hn : ps.length = n) (hs : ∀ xs Q, xs.length = n → S xs Q → defD N.length b xs Q) : OkD P w K mg base T x (k + 1) n S := by
  obtain ⟨f, fd, h1, F, hc⟩ := F
  have hbn := F.bindsN hb
  have hkp := F.kp
  obtain ⟨oc, od, dV, kV, doc, pm, an, cdv, ct, osl, rfl, lk, hcd, _, _⟩ := F.ex
  have hc' : cdv = .ref c := hc
  subst hc'
  refine ⟨f, _, ps, h1, hkp, hbn, fn_of lk hcd sc (fun vs H Q E ⟨ρ, xs, Pq, a, b, c, d⟩ => by rw [a.rv.length, b, hn]) fun A outer s H vs Q E hr ⟨ρ, xs, Pq, a, ln, c, d⟩ => ?_⟩
  refine ⟨liS ρ K T H b, PSs.nox (h f A outer s H E ρ H hr), startD N.length xs, _, start_er a, hs xs Pq ln c, fun σ' H' e' q r' _ => ?_, fun v H' y q e r => d v H' y q e r, fun _ _ _ q => q.elim, fun _ _ _ q => q.elim⟩
  exact d .non H' _ q r'.ext RD.non
end
end Bx
/-! Mx1: the readings over data, by simp -/
namespace Bx
open PySem
def bT (x : Val) (Q : Bool → Prop) : Prop := ∃ c, x = .d (.bool c) ∧ Q c
@[simp] theorem bT_d {c : Bool} {Q : Bool → Prop} : bT (.d (.bool c)) Q = Q c := by
  apply propext
  constructor
  · rintro ⟨d, h, q⟩
    injection h with h
    injection h with h
    rw [h]
    exact q
  · exact fun q => ⟨c, rfl, q⟩
def iT (x : Val) (Q : Int → Prop) : Prop := ∃ c, x = .d (.int c) ∧ Q c
@[simp] theorem iT_d {c : Int} {Q : Int → Prop} : iT (.d (.int c)) Q = Q c := by
  apply propext
  constructor
  · rintro ⟨d, h, q⟩
    injection h with h
    injection h with h
    rw [h]
    exact q
  · exact fun q => ⟨c, rfl, q⟩
def dDt (x : Val) (Q : PyData → Prop) : Prop := ∃ d, x = .d d ∧ Q d
@[simp] theorem dDt_d {c : PyData} {Q : PyData → Prop} : dDt (.d c) Q = Q c := by
  apply propext
  constructor
  · rintro ⟨d, h, q⟩
    injection h with h
    rw [h]
    exact q
  · exact fun q => ⟨c, rfl, q⟩
def tTt (x : Val) (Q : List PyData → Prop) : Prop := ∃ d, x = .d (.tuple d) ∧ Q d
@[simp] theorem tTt_d {c : List PyData} {Q : List PyData → Prop} : tTt (.d (.tuple c)) Q = Q c := by
  apply propext
  constructor
  · rintro ⟨d, h, q⟩
    injection h with h
    injection h with h
    rw [h]
    exact q
  · exact fun q => ⟨c, rfl, q⟩
section
variable {e : Sl} {P : Val → Prop} {a b c : DE} {t u : DT} {D : DK} {i j : Nat}
@[simp] theorem ap_var : dVar i e P = ∃ x, e[i]? = some (some x) ∧ P x.rd := rfl
@[simp] theorem ap_c {x : PyData} : dC x e P = P (.d x) := rfl
@[simp] theorem ap_ty {n : String} : dTy n e P = P (.ty n) := rfl
@[simp] theorem ap_nil {Q : List Val → Prop} : dNil e Q = Q [] := rfl
@[simp] theorem ap_cons {r : DA} {Q : List Val → Prop} : dCons a r e Q = a e fun x => r e fun xs => Q (x :: xs) := rfl
def mD (xs : List Val) (Q : List PyData → Prop) : Prop := ∃ ds, xs = ds.map Val.d ∧ Q ds
@[simp] theorem mD_nil {Q : List PyData → Prop} : mD [] Q = Q [] := by
  apply propext
  constructor
  · rintro ⟨ds, h, q⟩
    cases ds with
    | nil => exact q
    | cons x xs => cases h
  · exact fun q => ⟨[], rfl, q⟩
@[simp] theorem mD_cons {x : PyData} {xs : List Val} {Q : List PyData → Prop} : mD (.d x :: xs) Q = mD xs fun r => Q (x :: r) := by
  apply propext
  constructor
  · rintro ⟨ds, h, q⟩
    cases ds with
    | nil => cases h
    | cons y ys =>
      rw [List.map_cons] at h
      injection h with h1 h2
      injection h1 with h1
      subst h1
      exact ⟨ys, h2, q⟩
  · rintro ⟨ds, rfl, q⟩
    exact ⟨x :: ds, rfl, q⟩
@[simp] theorem ap_tup {d : DA} : dTup d e P = d e fun xs => mD xs fun ds => P (.d (.tuple ds)) := rfl
@[simp] theorem ap_lst {d : DA} : dLst d e P = d e fun xs => mD xs fun ds => P (.o ds) := rfl
@[simp] theorem ap_newD : dNewD e P = P (.dn 0 fun _ => none) := rfl
@[simp] theorem ap_op {r : DR} : dOp r a b e P = a e fun x => b e fun y => r x y P := rfl
@[simp] theorem ap_I2 {C : Int → Int → Prop} {g : Int → Int → PyData} {m n : Int} : rI2 C g (.d (.int m)) (.d (.int n)) P ↔ C m n ∧ P (.d (g m n)) := by simp [rI2]
@[simp] theorem ap_ix {xs : List PyData} {m : Int} : rIx (.d (.tuple xs)) (.d (.int m)) P ↔ ∃ v, L2.atI xs m = some v ∧ P (.d v) := by simp [rIx, Val.seq]
@[simp] theorem ap_ixl {xs : List PyData} {m : Int} : rIx (.l xs) (.d (.int m)) P ↔ ∃ v, L2.atI xs m = some v ∧ P (.d v) := by simp [rIx, Val.seq]
@[simp] theorem ap_ixo {xs : List PyData} {m : Int} : rIx (.o xs) (.d (.int m)) P ↔ ∃ v, L2.atI xs m = some v ∧ P (.d v) := by simp [rIx, Val.seq]
@[simp] theorem ap_ixs {ns : List Int} {m : Int} : rIx (.s ns) (.d (.int m)) P ↔ ∃ v, L2.atI (ns.map PyData.int) m = some v ∧ P (.d v) := by simp [rIx, Val.seq]
@[simp] theorem ap_ixD {f : Int → Option PyData} {m : Int} : rIxD (.dk f) (.d (.int m)) P ↔ ∃ v, f m = some v ∧ P (.d v) := by
  constructor
  · rintro ⟨f', n, v, h1, h2, h3, h4⟩
    cases h1
    cases h2
    exact ⟨v, h3, h4⟩
  · rintro ⟨v, h3, h4⟩
    exact ⟨f, m, v, rfl, rfl, h3, h4⟩
@[simp] theorem ap_inD {f : Int → Option PyData} {m : Int} : rInD (.d (.int m)) (.dk f) P ↔ P (.d (.bool (f m).isSome)) := by
  constructor
  · rintro ⟨n, f', h2, h1, h4⟩
    cases h1
    cases h2
    exact h4
  · exact fun h => ⟨m, f, rfl, rfl, h⟩
@[simp] theorem at_0 {α} {x : α} {r : List α} : L2.atI (x :: r) 0 = some x := by simp [L2.atI, L2.ixN]
@[simp] theorem at_1 {α} {x y : α} {r : List α} : L2.atI (x :: y :: r) 1 = some y := by
  have : (1 : Int) < (r.length : Int) + 1 + 1 := by omega
  simp [L2.atI, L2.ixN, this]
@[simp] theorem at_2 {α} {x y z : α} {r : List α} : L2.atI (x :: y :: z :: r) 2 = some z := by
  have : (2 : Int) < (r.length : Int) + 1 + 1 + 1 := by omega
  simp [L2.atI, L2.ixN, this]
@[simp] theorem at_3 {α} {x y z w : α} {r : List α} : L2.atI (x :: y :: z :: w :: r) 3 = some w := by
  have : (3 : Int) < (r.length : Int) + 1 + 1 + 1 + 1 := by omega
  simp [L2.atI, L2.ixN, this]
theorem at_nat {α} {xs : List α} {i : Nat} (h : i < xs.length) : L2.atI xs (i : Int) = some xs[i] := by
  have : (i : Int) < xs.length := by omega
  simp [L2.atI, L2.ixN, this, h]
theorem at_some {α} {xs : List α} {i : Int} (h0 : 0 ≤ i) (h : i < xs.length) : ∃ x, L2.atI xs i = some x ∧ x ∈ xs := by
  obtain ⟨n, rfl⟩ := Int.eq_ofNat_of_zero_le h0
  have h' : n < xs.length := by omega
  exact ⟨_, at_nat h', List.getElem_mem h'⟩
theorem at_map {α β} {f : α → β} {xs : List α} {i : Int} : L2.atI (xs.map f) i = (L2.atI xs i).map f := by
  unfold L2.atI
  rw [List.length_map]
  cases L2.ixN xs.length i with
  | none => rfl
  | some j => simp
@[simp] theorem ap_cat {xs ys : List PyData} : rCat (.o xs) (.o ys) P ↔ xs.length + ys.length ≤ 100000 ∧ P (.o (xs ++ ys)) := by simp [rCat, Val.lst]
@[simp] theorem ap_catl {xs ys : List PyData} : rCat (.l xs) (.o ys) P ↔ xs.length + ys.length ≤ 100000 ∧ P (.o (xs ++ ys)) := by simp [rCat, Val.lst]
@[simp] theorem ap_catT {xs ys : List PyData} : rCatT (.d (.tuple xs)) (.d (.tuple ys)) P ↔ xs.length + ys.length ≤ 100000 ∧ P (.d (.tuple (xs ++ ys))) := by simp [rCatT]
@[simp] theorem ap_repT {xs : List PyData} {k : Int} : rRepT (.d (.tuple xs)) (.d (.int k)) P ↔ xs ≠ [] ∧ 1 ≤ k ∧ k ≤ 1000 ∧ xs.length ≤ 1000 ∧ P (.d (.tuple (List.replicate k.toNat xs).flatten)) := by simp [rRepT]
@[simp] theorem ap_eq {neg : Bool} {x y : PyData} : rEq neg (.d x) (.d y) P ↔ (x.depth ≤ 60 ∨ y.depth ≤ 60) ∧ P (.d (.bool (if neg then !PyData.eqv x y else PyData.eqv x y))) := by
  cases neg <;> simp [rEq, Val.py]
theorem ap_eqL {neg : Bool} {v w : Val} {x y : PyData} (h1 : v.py = some x) (h2 : w.py = some y) : rEq neg v w P ↔ (x.depth ≤ 60 ∨ y.depth ≤ 60) ∧ P (.d (.bool (if neg then !PyData.eqv x y else PyData.eqv x y))) := by
  cases neg <;> simp [rEq, h1, h2]
@[simp] theorem ap_eqoo {neg : Bool} {x y : List PyData} : rEq neg (.o x) (.o y) P ↔ ((PyData.list x).depth ≤ 60 ∨ (PyData.list y).depth ≤ 60) ∧ P (.d (.bool (if neg then !PyData.eqv (.list x) (.list y) else PyData.eqv (.list x) (.list y)))) := ap_eqL rfl rfl
@[simp] theorem ap_eqlo {neg : Bool} {x y : List PyData} : rEq neg (.l x) (.o y) P ↔ ((PyData.list x).depth ≤ 60 ∨ (PyData.list y).depth ≤ 60) ∧ P (.d (.bool (if neg then !PyData.eqv (.list x) (.list y) else PyData.eqv (.list x) (.list y)))) := ap_eqL rfl rfl
@[simp] theorem ap_inS {neg : Bool} {x : PyData} {v : Val} : rInS neg (.d x) v P ↔ ∃ ys, v.seq = some ys ∧ flatD x = true ∧ ys.all flatD = true ∧ P (.d (.bool (if neg then !(ys.any fun z => PyData.eqv z x) else ys.any fun z => PyData.eqv z x))) := by
  cases neg <;> simp [rInS]
@[simp] theorem ap_inN {xs : List PyData} : rInN (.d .none) (.l xs) P ↔ P (.d (.bool (xs.any isNoneD))) := by simp [rInN, Val.lst]
@[simp] theorem ap_ltD {x y : PyData} : rLtD (.d x) (.d y) P ↔ PySem.W.alike x y = true ∧ x ≠ .none ∧ x.depth ≤ 60 ∧ P (.d (.bool (PySem.W.dataLt x y))) := by simp [rLtD]
@[simp] theorem ap_gtD {x y : PyData} : rGtD (.d x) (.d y) P ↔ PySem.W.alike x y = true ∧ x ≠ .none ∧ x.depth ≤ 60 ∧ P (.d (.bool (PySem.W.dataLt y x))) := by simp [rGtD]
@[simp] theorem ap_leD {x y : PyData} : rLeD (.d x) (.d y) P ↔ PySem.W.alike x y = true ∧ x ≠ .none ∧ x.depth ≤ 60 ∧ P (.d (.bool (!PySem.W.dataLt y x))) := by simp [rLeD]
@[simp] theorem ap_isN {neg : Bool} : dIsN neg a e P = a e fun x => P (.d (.bool (if neg then !x.isN else x.isN))) := rfl
@[simp] theorem ap_neg : dNeg a e P = a e fun x => iT x fun i => P (.d (.int (-i))) := rfl
@[simp] theorem ap_chain : dChain a b c e P = a e fun x => b e fun y => iT x fun i => iT y fun j => if i ≤ j then c e fun z => iT z fun k => P (.d (.bool (decide (j < k)))) else P (.d (.bool false)) := by unfold dChain iT; simp
@[simp] theorem ap_andV : dAndV a b e P = a e fun x => bT x fun c => if c = true then b e P else P (.d (.bool false)) := rfl
@[simp] theorem ap_orV : dOrV a b e P = a e fun x => bT x fun c => if c = true then P (.d (.bool true)) else b e P := rfl
@[simp] theorem ap_notV : dNotV a e P = a e fun x => bT x fun c => P (.d (.bool (!c))) := rfl
@[simp] theorem ap_T {Q : Bool → Prop} : dT a e Q = a e fun x => bT x fun c => Q c := rfl
@[simp] theorem ap_and {Q : Bool → Prop} : dAnd t u e Q = t e fun c => if c = true then u e Q else Q false := rfl
@[simp] theorem ap_or {Q : Bool → Prop} : dOr t u e Q = t e fun c => if c = true then Q true else u e Q := rfl
@[simp] theorem ap_not {Q : Bool → Prop} : dNot t e Q = t e fun c => Q (!c) := rfl
@[simp] theorem ap_yes {Q : Bool → Prop} : dYes e Q = Q true := rfl
@[simp] theorem ap_ifE : dIfE t a b e P = t e fun c => if c = true then a e P else b e P := rfl
@[simp] theorem ap_f {r : DF} {d : DA} : dF r d e P = d e fun xs => r xs P := rfl
@[simp] theorem ap_call {r : DF} {d : DA} : dCall r d e P = d e fun xs => r (xs.map Val.rd) P := rfl
@[simp] theorem ap_doN {Q : Option Int → Prop} : doN e Q = Q none := rfl
@[simp] theorem ap_doS {Q : Option Int → Prop} : doS a e Q = a e fun x => iT x fun i => Q (some i) := rfl
@[simp] theorem ap_slL {l h : DO} : dSlL a l h e P = a e fun x => l e fun l => h e fun h => ∃ xs, x.lst = some xs ∧ P (.o (cut xs l h)) := rfl
@[simp] theorem ap_slT {l h : DO} : dSlT a l h e P = a e fun x => l e fun l => h e fun h => tTt x fun xs => P (.d (.tuple (cut xs l h))) := rfl
@[simp] theorem rd_d {x : PyData} : (Val.d x).rd = .d x := rfl
@[simp] theorem rd_l {x : List PyData} : (Val.l x).rd = .l x := rfl
@[simp] theorem rd_o {x : List PyData} : (Val.o x).rd = .l x := rfl
@[simp] theorem rd_k {f : Int → Option PyData} : (Val.dk f).rd = .dk f := rfl
@[simp] theorem rd_n {n : Nat} {f : Int → Option PyData} : (Val.dn n f).rd = .dk f := rfl
@[simp] theorem rd_g : Val.rng.rd = .rng := rfl
@[simp] theorem rd_s {ns : List Int} : (Val.s ns).rd = .s ns := rfl
@[simp] theorem isn_d {x : PyData} : (Val.d x).isN = isNoneD x := rfl
@[simp] theorem lst_l {x : List PyData} : (Val.l x).lst = some x := rfl
@[simp] theorem lst_o {x : List PyData} : (Val.o x).lst = some x := rfl
@[simp] theorem own_d {x : PyData} : (Val.d x).own ↔ True := Iff.rfl
@[simp] theorem own_o {x : List PyData} : (Val.o x).own ↔ True := Iff.rfl
@[simp] theorem own_n {n : Nat} {f : Int → Option PyData} : (Val.dn n f).own ↔ True := Iff.rfl
@[simp] theorem fz_d {x : PyData} : (Val.d x).fz = .d x := rfl
@[simp] theorem fz_o {x : List PyData} : (Val.o x).fz = .l x := rfl
@[simp] theorem fz_n {n : Nat} {f : Int → Option PyData} : (Val.dn n f).fz = .dk f := rfl
@[simp] theorem zq_d {x : List PyData} : (Val.d (.tuple x)).zq = some x := rfl
@[simp] theorem zq_l {x : List PyData} : (Val.l x).zq = some x := rfl
@[simp] theorem zq_o {x : List PyData} : (Val.o x).zq = some x := rfl
@[simp] theorem fix_d {x : List PyData} : (Val.d (.tuple x)).fix = some x := rfl
@[simp] theorem fix_l {x : List PyData} : (Val.l x).fix = some x := rfl
@[simp] theorem seq_d {x : List PyData} : (Val.d (.tuple x)).seq = some x := rfl
@[simp] theorem seq_l {x : List PyData} : (Val.l x).seq = some x := rfl
@[simp] theorem seq_o {x : List PyData} : (Val.o x).seq = some x := rfl
@[simp] theorem seq_s {x : List Int} : (Val.s x).seq = some (x.map .int) := rfl
@[simp] theorem non_n : isNoneD .none = true := rfl
@[simp] theorem non_t {x : List PyData} : isNoneD (.tuple x) = false := rfl
@[simp] theorem non_i {x : Int} : isNoneD (.int x) = false := rfl
/-! built-ins -/
@[simp] theorem f_len {x : Val} : fLen [x] P ↔ ∃ xs, x.seq = some xs ∧ P (.d (.int xs.length)) := by simp [fLen]
@[simp] theorem f_abs {m : Int} : fAbs [.d (.int m)] P ↔ P (.d (.int (if m < 0 then -m else m))) := by simp [fAbs]
@[simp] theorem f_int {m : Bool} : fInt [.d (.bool m)] P ↔ P (.d (.int (if m then 1 else 0))) := by simp [fInt]
@[simp] theorem f_min2 {m n : Int} : fMin2 [.d (.int m), .d (.int n)] P ↔ P (.d (.int (if n < m then n else m))) := by simp [fMin2, and_assoc]
@[simp] theorem f_max2 {m n : Int} : fMax2 [.d (.int m), .d (.int n)] P ↔ P (.d (.int (if n > m then n else m))) := by simp [fMax2, and_assoc]
@[simp] theorem f_max3 {m n k : Int} : fMax3 [.d (.int m), .d (.int n), .d (.int k)] P ↔ P (.d (.int (mx2 (mx2 m n) k))) := by simp [fMax3, and_assoc]
@[simp] theorem f_tuple {v : Val} : fTuple [v] P ↔ ∃ xs, v.lst = some xs ∧ P (.d (.tuple xs)) := by simp [fTuple]
@[simp] theorem f_list {v : Val} : fList [v] P ↔ ∃ xs, v.seq = some xs ∧ P (.o xs) := by simp [fList]
@[simp] theorem f_sorted {v : Val} : fSorted [v] P ↔ ∃ xs, v.lst = some xs ∧ PySem.W.AllAlike xs ∧ PySem.W.Sortable xs ∧ xs.length ≤ 100000 ∧ (∀ d ∈ xs, d.depth ≤ 50) ∧ P (.o (xs.mergeSort (PySem.W.dataLe false id))) := by simp [fSorted]
theorem f_sum {v : Val} {ns : List Int} (h : v.lst = some (ns.map .int)) (p : P (.d (.int ns.sum))) : fSum [v] P := ⟨v, ns, rfl, h, p⟩
theorem f_all {v : Val} {ns : List Bool} (h : v.lst = some (ns.map .bool)) (p : P (.d (.bool (ns.all id)))) : fAll [v] P := ⟨v, ns, rfl, h, p⟩
theorem f_any {v : Val} {ns : List Bool} (h : v.lst = some (ns.map .bool)) (p : P (.d (.bool (ns.any id)))) : fAny [v] P := ⟨v, ns, rfl, h, p⟩
@[simp] theorem f_isi {x : PyData} {n : String} : fIsi [.d x, .ty n] P ↔ (n = "int" ∨ n = "bool" ∨ n = "tuple" ∨ n = "str") ∧ P (.d (.bool (isiB x n))) := by simp [fIsi, and_assoc]
/-! statements -/
@[simp] theorem st_next : sNext D e = D.nx e := rfl
@[simp] theorem st_seq {s s' : DS} : sSeq s s' D e = s { D with nx := s' D } e := rfl
@[simp] theorem st_ret : sRet a D e = a e D.rt := rfl
@[simp] theorem st_retV : sRetV i D e = ∃ x, e[i]? = some (some x) ∧ x.own ∧ D.rt x := rfl
@[simp] theorem st_if {s s' : DS} : sIf t s s' D e = t e fun c => if c = true then s D e else s' D e := rfl
@[simp] theorem st_set : sSet a i D e = a e fun x => x.own ∧ D.nx (e.set i (some x)) := rfl
@[simp] theorem st_setF : sSetF a i D e = a e fun x => x.own ∧ D.nx (e.set i (some x.fz)) := rfl
@[simp] theorem st_par : sPar i j a b D e = a e fun x => b e fun y => x.own ∧ y.own ∧ D.nx ((e.set i (some x)).set j (some y)) := rfl
@[simp] theorem st_parF : sParF i j a b D e = a e fun x => b e fun y => x.own ∧ y.own ∧ D.nx ((e.set i (some x.fz)).set j (some y.fz)) := rfl
@[simp] theorem st_asg {g : Tg} : sAsg a g D e = a e fun x => dDt x fun d => dG g d e D.nx := rfl
@[simp] theorem st_aug : sAug i a D e = ∃ n, e[i]? = some (some (.d (.int n))) ∧ a e fun x => iT x fun m => D.nx (e.set i (some (.d (.int (n + m))))) := rfl
@[simp] theorem st_app : sApp i a D e = ∃ xs, e[i]? = some (some (.o xs)) ∧ xs.length < 100000 ∧ a e fun x => dDt x fun d => D.nx (e.set i (some (.o (xs ++ [d])))) := rfl
@[simp] theorem st_ext : sExt i a D e = ∃ xs, e[i]? = some (some (.o xs)) ∧ xs.length ≤ 100000 ∧ a e fun x => ∃ ys, x.lst = some ys ∧ ys.length ≤ 100000 ∧ D.nx (e.set i (some (.o (xs ++ ys)))) := rfl
@[simp] theorem st_upd : sUpd i a D e = ∃ n f, e[i]? = some (some (.dn n f)) ∧ a e fun x => ∃ ps : List (Int × PyData), x.lst = some (ps.map pairD) ∧ n + ps.length ≤ 100000 ∧ D.nx (e.set i (some (.dn (n + ps.length) (fmerge f ps)))) := rfl
@[simp] theorem g_n {x : PyData} {Q : Sl → Prop} : dG (.n i) x e Q = Q (e.set i (some (.d x))) := by simp only [dG]
@[simp] theorem g_t {ts : Tgs} {xs : List PyData} {Q : Sl → Prop} : dG (.t ts) (.tuple xs) e Q = (xs.length = ts.len ∧ dGs ts xs e Q) := by
  simp only [dG]
  apply propext
  constructor
  · rintro ⟨ys, h, q⟩
    injection h with h
    subst h
    exact q
  · exact fun q => ⟨xs, rfl, q⟩
@[simp] theorem gs_n {Q : Sl → Prop} : dGs .nil [] e Q = Q e := by simp only [dGs, true_and]
@[simp] theorem gs_c {g : Tg} {ts : Tgs} {x : PyData} {xs : List PyData} {Q : Sl → Prop} : dGs (.cons g ts) (x :: xs) e Q = dG g x e fun e' => dGs ts xs e' Q := by
  simp only [dGs]
  apply propext
  constructor
  · rintro ⟨y, ys, h, q⟩
    injection h with h1 h2
    subst h1 h2
    exact q
  · exact fun q => ⟨x, xs, rfl, q⟩
@[simp] theorem tl_n : Tgs.nil.len = 0 := rfl
@[simp] theorem tl_c {g : Tg} {ts : Tgs} : (Tgs.cons g ts).len = ts.len + 1 := rfl
@[simp] theorem wp_n : wipeE e [] = e := rfl
@[simp] theorem wp_c {vs : List Nat} : wipeE e (i :: vs) = (wipeE e vs).set i none := rfl
@[simp] theorem di_T {Q : List PyData → Prop} : diT a e Q = a e fun x => tTt x fun xs => Q xs := rfl
@[simp] theorem di_V {Q : List PyData → Prop} : diV i e Q = ∃ x xs, e[i]? = some (some x) ∧ x.fix = some xs ∧ Q xs := rfl
@[simp] theorem di_R {Q : List PyData → Prop} : diR a e Q = a e fun x => iT x fun n => 0 ≤ n ∧ n ≤ 100000 ∧ Q ((List.range n.toNat).map fun i => PyData.int (i : Nat)) := rfl
@[simp] theorem di_Z {Q : List PyData → Prop} : diZ i j e Q = ∃ x y xs ys, e[i]? = some (some x) ∧ e[j]? = some (some y) ∧ x.fix = some xs ∧ y.fix = some ys ∧ Q (zipD xs ys) := rfl
@[simp] theorem ci_L {Q : List PyData → Prop} : ciL a e Q = a e fun x => ∃ xs, x.lst = some xs ∧ xs.length ≤ 100000 ∧ Q xs := rfl
@[simp] theorem ci_T {Q : List PyData → Prop} : ciT a e Q = a e fun x => tTt x fun xs => xs.length ≤ 100000 ∧ Q xs := rfl
@[simp] theorem ci_R {Q : List PyData → Prop} : ciR a e Q = a e fun x => iT x fun n => 0 ≤ n ∧ n ≤ 100000 ∧ Q ((List.range n.toNat).map fun i => PyData.int (i : Nat)) := rfl
@[simp] theorem ci_Z {Q : List PyData → Prop} : ciZ a b e Q = a e fun x => b e fun y => ∃ xs ys, x.zq = some xs ∧ y.zq = some ys ∧ xs.length ≤ 100000 ∧ Q (zipD xs ys) := rfl
@[simp] theorem ap_lc {it : CI} {g : Tg} {el : DE} {vs : List Nat} : dLc it g t el vs e P = it e fun xs => lcLoop g t el (wipeE e vs) P xs [] := rfl
@[simp] theorem st_for {di : DI} {g : Tg} {s : DS} : sFor di g s D e = di e fun xs => forLoop g s D xs e := rfl
@[simp] theorem df_ap {n : Nat} {s : DS} {xs : List Val} : defD n s xs P = s { nx := fun _ => P (.d .none), rt := P } (startD n xs) := rfl
inductive F2 {α β : Type} (R : α → β → Prop) : List α → List β → Prop
  | nil : F2 R [] []
  | cons {a : α} {b : β} {as : List α} {bs : List β} : R a b → F2 R as bs → F2 R (a :: as) (b :: bs)
/-- a comprehension by what each turn gives -/
theorem lc_rel {α : Type} {g : Tg} {el : DE} {e0 : Sl} (enc : α → PyData) (keep : α → Bool) (R : α → PyData → Prop) : ∀ (xs : List α) (acc : List PyData)
    (_ : ∀ x ∈ xs, ∀ (N : List PyData → Prop) (acc : List PyData), (∀ d, keep x = true → R x d → N (acc ++ [d])) → (keep x = false → N acc) → dG g (enc x) e0 fun e2 => t e2 fun b => if b = true then el e2 fun y => dDt y fun d => N (acc ++ [d]) else N acc)
    (_ : ∀ ys, F2 R (xs.filter keep) ys → P (.o (acc ++ ys))), lcLoop g t el e0 P (xs.map enc) acc
  | [], acc, _, h => by
    have := h [] .nil
    simpa [lcLoop] using this
  | x :: xs, acc, hs, h => by
    refine hs x (by simp) (fun a => lcLoop g t el e0 P (xs.map enc) a) acc (fun d hk hd => ?_) fun hk => ?_
    · refine lc_rel enc keep R xs _ (fun y hy => hs y (by simp [hy])) fun ys hys => ?_
      have := h (d :: ys) (by rw [List.filter_cons_of_pos hk]; exact .cons hd hys)
      simpa using this
    · refine lc_rel enc keep R xs _ (fun y hy => hs y (by simp [hy])) fun ys hys => h ys (by rw [List.filter_cons_of_neg (by simp [hk])]; exact hys)
theorem f2_map {α : Type} {f : α → PyData} {xs : List α} {ys : List PyData} (h : F2 (fun x d => d = f x) xs ys) : ys = xs.map f := by
  induction h with
  | nil => rfl
  | cons a _ ih => rw [a, ih]; rfl
/-- .. kept or not -/
theorem lc_filter {α : Type} {g : Tg} {el : DE} {e0 : Sl} (enc : α → PyData) (keep : α → Bool) (f : α → PyData) (xs : List α) (acc : List PyData)
    (h : ∀ x ∈ xs, ∀ (N : List PyData → Prop) (acc : List PyData), (keep x = true → N (acc ++ [f x])) → (keep x = false → N acc) → dG g (enc x) e0 fun e2 => t e2 fun b => if b = true then el e2 fun y => dDt y fun d => N (acc ++ [d]) else N acc)
    (hp : P (.o (acc ++ (xs.filter keep).map f))) : lcLoop g t el e0 P (xs.map enc) acc :=
  lc_rel enc keep (fun x d => d = f x) xs acc (fun x hx N acc h1 h2 => h x hx N acc (fun k => h1 _ k rfl) h2) fun ys hys => by
    rw [f2_map hys]
    exact hp
/-- .. each turn one value -/
theorem lc_map {α : Type} {g : Tg} {el : DE} {e0 : Sl} (enc : α → PyData) (f : α → PyData) (xs : List α) (acc : List PyData)
    (h : ∀ x ∈ xs, ∀ (N : List PyData → Prop) (acc : List PyData), N (acc ++ [f x]) → dG g (enc x) e0 fun e2 => t e2 fun b => if b = true then el e2 fun y => dDt y fun d => N (acc ++ [d]) else N acc)
    (hp : P (.o (acc ++ xs.map f))) : lcLoop g t el e0 P (xs.map enc) acc :=
  lc_filter enc (fun _ => true) f xs acc (fun x hx N acc h1 _ => h x hx N acc (h1 rfl)) (by rw [List.filter_eq_self.mpr (fun _ _ => rfl)]; exact hp)
/-- a for by an invariant of what is left -/
theorem for_ind {g : Tg} {s : DS} (I : List PyData → Sl → Prop) (hs : ∀ x r e (N : Sl → Prop), I (x :: r) e → (∀ e', I r e' → N e') → dG g x e fun e' => s { nx := N, rt := D.rt, bk := D.nx, ct := N } e') (hn : ∀ e, I [] e → D.nx e) : ∀ xs e, I xs e → forLoop g s D xs e
  | [], e, h => hn e h
  | x :: r, e, h => hs x r e _ h fun e' h' => for_ind I hs hn r e' h'
theorem for_indT {α : Type} {g : Tg} {s : DS} (enc : α → PyData) (I : List α → Sl → Prop) (hs : ∀ x r e (N : Sl → Prop), I (x :: r) e → (∀ e', I r e' → N e') → dG g (enc x) e fun e' => s { nx := N, rt := D.rt, bk := D.nx, ct := N } e') (hn : ∀ e, I [] e → D.nx e) : ∀ (xs : List α) e, I xs e → forLoop g s D (xs.map enc) e
  | [], e, h => hn e h
  | x :: r, e, h => hs x r e _ h fun e' h' => for_indT enc I hs hn r e' h'
end
end Bx
/-! Mx2: the typed world; boxes, spans, fits, plain boxes -/
namespace Bx
open PySem
/-! ### depth -/
theorem depthAll_le {k : Nat} : ∀ {xs : List PyData}, (∀ x ∈ xs, x.depth ≤ k) → PyData.depthAll xs ≤ k
  | [], _ => Nat.zero_le _
  | x :: xs, h => by
    have := depthAll_le (xs := xs) (k := k) fun y hy => h y (by simp [hy])
    have := h x (by simp)
    simp only [PyData.depthAll]
    omega
theorem depth_tup {k : Nat} {xs : List PyData} (h : ∀ x ∈ xs, x.depth ≤ k) : (PyData.tuple xs).depth ≤ k + 1 := by
  have := depthAll_le h
  simp only [PyData.depth]
  omega
theorem depth_lst {k : Nat} {xs : List PyData} (h : ∀ x ∈ xs, x.depth ≤ k) : (PyData.list xs).depth ≤ k + 1 := by
  have := depthAll_le h
  simp only [PyData.depth]
  omega
@[simp] theorem depth_i {i : Int} : (PyData.int i).depth = 0 := by simp only [PyData.depth]
@[simp] theorem depth_b {i : Bool} : (PyData.bool i).depth = 0 := by simp only [PyData.depth]
@[simp] theorem depth_s {i : Str} : (PyData.str i).depth = 0 := by simp only [PyData.depth]
@[simp] theorem depth_n : PyData.none.depth = 0 := by simp only [PyData.depth]
/-! ### == -/
@[simp] theorem eqv_i {i j : Int} : PyData.eqv (.int i) (.int j) = decide (i = j) := by simp only [PyData.eqv]; rfl
@[simp] theorem eqv_s {i j : Str} : PyData.eqv (.str i) (.str j) = decide (i = j) := by simp only [PyData.eqv]; rfl
@[simp] theorem eqv_t {xs ys : List PyData} : PyData.eqv (.tuple xs) (.tuple ys) = PyData.eqvAll xs ys := by simp only [PyData.eqv]
@[simp] theorem eqv_l {xs ys : List PyData} : PyData.eqv (.list xs) (.list ys) = PyData.eqvAll xs ys := by simp only [PyData.eqv]
@[simp] theorem eqv_nn : PyData.eqv .none .none = true := by simp only [PyData.eqv]
@[simp] theorem eqv_ni {i : Int} : PyData.eqv .none (.int i) = false := by simp only [PyData.eqv]
@[simp] theorem eqv_in {i : Int} : PyData.eqv (.int i) .none = false := by simp only [PyData.eqv]
@[simp] theorem eqvA_nn : PyData.eqvAll [] [] = true := by simp only [PyData.eqvAll]
@[simp] theorem eqvA_nc {x : PyData} {xs : List PyData} : PyData.eqvAll [] (x :: xs) = false := by simp only [PyData.eqvAll]
@[simp] theorem eqvA_cn {x : PyData} {xs : List PyData} : PyData.eqvAll (x :: xs) [] = false := by simp only [PyData.eqvAll]
@[simp] theorem eqvA_cc {x y : PyData} {xs ys : List PyData} : PyData.eqvAll (x :: xs) (y :: ys) = (PyData.eqv x y && PyData.eqvAll xs ys) := by simp only [PyData.eqvAll]
theorem eqvAll_map {α : Type} [DecidableEq α] {f : α → PyData} (h : ∀ a b, PyData.eqv (f a) (f b) = decide (a = b)) : ∀ (xs ys : List α), PyData.eqvAll (xs.map f) (ys.map f) = decide (xs = ys)
  | [], [] => by simp
  | [], y :: ys => by simp
  | x :: xs, [] => by simp
  | x :: xs, y :: ys => by
    rw [List.map_cons, List.map_cons, eqvA_cc, h, eqvAll_map h xs ys, Bool.eq_iff_iff]
    simp
/-! ### the typed world -/
abbrev Bd := Option (Int × Bool)
def eBd : Bd → PyData
  | none => .none
  | some (n, b) => .tuple [.int n, .bool b]
abbrev Spn := Bd × Bd
def eSp (s : Spn) : PyData := .tuple [eBd s.1, eBd s.2]
abbrev Box := List Spn
def eBox (b : Box) : PyData := .tuple (b.map eSp)
def eO : Option Int → PyData
  | none => .none
  | some n => .int n
abbrev Pr := Option Int × Option Int
def ePr (p : Pr) : PyData := .tuple [eO p.1, eO p.2]
abbrev Pl := List Pr
def ePl (p : Pl) : PyData := .tuple (p.map ePr)
def eNs (ns : List Int) : PyData := .tuple (ns.map .int)
def fLow : Bd → Int → Bool
  | none, _ => true
  | some (l, b), n => decide (l < n) || (decide (n = l) && b)
def fHigh : Bd → Int → Bool
  | none, _ => true
  | some (l, b), n => decide (n < l) || (decide (n = l) && b)
def fSp (s : Spn) (n : Int) : Bool := fLow s.1 n && fHigh s.2 n
def fitsB (b : Box) (p : List Int) : Bool := (List.zipWith fSp b p).all id
def plSp (s : Spn) : Pr := (s.1.map fun l => l.1 + (if !l.2 then 1 else 0), s.2.map fun h => h.1 - (if !h.2 then 1 else 0))
def crossed : Pr → Bool
  | (some a, some b) => decide (b < a)
  | _ => false
def plOf (ps : Pl) : Pl := if ps.any crossed then ps.map fun _ => (some 1, some 0) else ps
def plBox (b : Box) : Pl := plOf (b.map plSp)
def gtr (a b : Option Int) : Option Int := match a, b with
  | none, b => b
  | some x, some y => if y > x then some y else some x
  | some x, none => some x
def lsr (a b : Option Int) : Option Int := match a, b with
  | none, b => b
  | some x, some y => if y < x then some y else some x
  | some x, none => some x
def comm (a b : Pl) : Pl := plOf (List.zipWith (fun p q => (gtr p.1 q.1, lsr p.2 q.2)) a b)
def liesW (a b : Pl) : Bool := decide (comm a b = a)
@[simp] theorem eO_none {a : Option Int} : isNoneD (eO a) = a.isNone := by cases a <;> rfl
@[simp] theorem eBd_none {a : Bd} : isNoneD (eBd a) = a.isNone := by cases a <;> rfl
@[simp] theorem eqv_O {a b : Option Int} : PyData.eqv (eO a) (eO b) = decide (a = b) := by
  cases a <;> cases b <;> simp [eO]
@[simp] theorem eqv_Pr {a b : Pr} : PyData.eqv (ePr a) (ePr b) = decide (a = b) := by
  obtain ⟨a1, a2⟩ := a
  obtain ⟨b1, b2⟩ := b
  simp only [ePr, eqv_t, eqvA_cc, eqv_O, eqvA_nn, Bool.and_true]
  rw [Bool.eq_iff_iff]
  simp
@[simp] theorem eqv_Pl {a b : Pl} : PyData.eqv (ePl a) (ePl b) = decide (a = b) := by
  simp only [ePl, eqv_t]
  exact eqvAll_map (fun _ _ => eqv_Pr) a b
theorem eqv_Ns {a b : List Int} : PyData.eqvAll (a.map .int) (b.map .int) = decide (a = b) := eqvAll_map (fun _ _ => eqv_i) a b
theorem depth_O {a : Option Int} : (eO a).depth = 0 := by cases a <;> simp [eO]
theorem depth_Pr {a : Pr} : (ePr a).depth ≤ 1 := depth_tup (by simp [depth_O])
theorem depth_Pl {a : Pl} : (ePl a).depth ≤ 2 := depth_tup (by
  intro x hx
  obtain ⟨y, _, rfl⟩ := List.mem_map.mp hx
  exact depth_Pr)
theorem depth_Ns {a : List Int} : (eNs a).depth ≤ 1 := depth_tup (by
  intro x hx
  obtain ⟨y, _, rfl⟩ := List.mem_map.mp hx
  simp)

/-! ### specs and laws -/
def S_fits_low : DF := fun vs P => ∃ (a : Bd) (n : Int), vs = [.d (eBd a), .d (.int n)] ∧ P (.d (.bool (fLow a n)))
theorem law_fits_low : ∀ vs P, S_fits_low vs P → defD 2 b_fits_low vs P := by
  rintro vs P ⟨a, n, rfl, h⟩
  rcases a with _ | ⟨l, b⟩
  · simpa [b_fits_low, startD, eBd, fLow] using h
  · simp [b_fits_low, startD, eBd, fLow] at h ⊢
    by_cases h1 : l < n
    · simpa [h1] using h
    · by_cases h2 : n = l
      · simpa [h1, h2] using h
      · simpa [h1, h2] using h
def S_fits_high : DF := fun vs P => ∃ (a : Bd) (n : Int), vs = [.d (eBd a), .d (.int n)] ∧ P (.d (.bool (fHigh a n)))
theorem law_fits_high : ∀ vs P, S_fits_high vs P → defD 2 b_fits_high vs P := by
  rintro vs P ⟨a, n, rfl, h⟩
  rcases a with _ | ⟨l, b⟩
  · simpa [b_fits_high, startD, eBd, fHigh] using h
  · simp [b_fits_high, startD, eBd, fHigh] at h ⊢
    by_cases h1 : n < l
    · simpa [h1] using h
    · by_cases h2 : n = l
      · simpa [h1, h2] using h
      · simpa [h1, h2] using h
def S_fits_span : DF := fun vs P => ∃ (a : Spn) (n : Int), vs = [.d (eSp a), .d (.int n)] ∧ P (.d (.bool (fSp a n)))
theorem law_fits_span : ∀ vs P, S_fits_span vs P → defD 2 (b_fits_span S_fits_low S_fits_high) vs P := by
  rintro vs P ⟨a, n, rfl, h⟩
  simp [b_fits_span, startD, eSp]
  refine ⟨_, _, rfl, _, rfl, ?_⟩
  unfold fSp at h
  cases hl : fLow a.1 n with
  | false => simpa [hl] using h
  | true =>
    simp [hl] at h ⊢
    exact ⟨_, _, rfl, h⟩
theorem zipD_map {α β : Type} {f : α → PyData} {g : β → PyData} (xs : List α) (ys : List β) : zipD (xs.map f) (ys.map g) = (xs.zip ys).map fun p => PyData.tuple [f p.1, g p.2] := by
  unfold zipD
  rw [List.zipWith_map]
  rw [← List.map_uncurry_zip_eq_zipWith]
  rfl
def S_fits : DF := fun vs P => ∃ (b : Box) (p : List Int), vs = [.d (eBox b), .d (eNs p)] ∧ b.length ≤ 1000 ∧ P (.d (.bool (fitsB b p)))
theorem law_fits : ∀ vs P, S_fits vs P → defD 4 (b_fits S_fits_span) vs P := by
  rintro vs P ⟨b, p, rfl, hz, h⟩
  simp [b_fits, startD, eBox, eNs]
  refine ⟨by omega, ?_⟩
  rw [zipD_map]
  refine lc_map _ (fun x => .bool (fSp x.1 x.2)) _ _ (fun x hx N acc h => ?_) ?_
  · simp
    exact ⟨_, _, rfl, by simpa using h⟩
  · refine f_all (ns := (b.zip p).map fun x => fSp x.1 x.2) (by simp) ?_
    unfold fitsB at h
    rw [← List.map_uncurry_zip_eq_zipWith] at h
    exact h
def S_plain_span : DF := fun vs P => ∃ (a : Spn), vs = [.d (eSp a)] ∧ P (.d (ePr (plSp a)))
theorem law_plain_span : ∀ vs P, S_plain_span vs P → defD 5 b_plain_span vs P := by
  rintro vs P ⟨⟨a, b⟩, rfl, h⟩
  rcases a with _ | ⟨l, c⟩ <;> rcases b with _ | ⟨k, d⟩ <;> simpa [b_plain_span, startD, eSp, eBd, plSp, ePr, eO] using h
def S_is_crossed : DF := fun vs P => ∃ (a : Pr), vs = [.d (ePr a)] ∧ P (.d (.bool (crossed a)))
theorem law_is_crossed : ∀ vs P, S_is_crossed vs P → defD 1 b_is_crossed vs P := by
  rintro vs P ⟨⟨a, b⟩, rfl, h⟩
  rcases a with _ | l <;> rcases b with _ | k <;> simpa [b_is_crossed, startD, ePr, eO, crossed] using h
def S_plain_of : DF := fun vs P => ∃ (a : Pl), vs = [.l (a.map ePr)] ∧ a.length ≤ 1000 ∧ P (.d (ePl (plOf a)))
theorem law_plain_of : ∀ vs P, S_plain_of vs P → defD 2 (b_plain_of S_is_crossed) vs P := by
  rintro vs P ⟨a, rfl, hz, h⟩
  simp [b_plain_of, startD]
  refine ⟨by omega, ?_⟩
  refine lc_map _ (fun x => .bool (crossed x)) _ _ (fun x hx N acc h => ?_) ?_
  · simp
    exact ⟨_, rfl, by simpa using h⟩
  · refine f_any (ns := a.map crossed) (by simp) ?_
    simp [List.any_map]
    unfold plOf at h
    by_cases hc : a.any crossed = true
    · rw [if_pos hc] at h
      have hc' : a.any (id ∘ crossed) = true := hc
      rw [if_pos (by simpa using hc')]
      refine ⟨by omega, ?_⟩
      refine lc_map _ (fun x => .tuple [.int 1, .int 0]) _ _ (fun x hx N acc h => ?_) ?_
      · simpa using h
      · simp
        simpa [ePl, ePr, eO, Function.comp_def] using h
    · rw [if_neg hc] at h
      rw [if_neg (by simpa using hc)]
      simpa [ePl] using h
def S_plain_box : DF := fun vs P => ∃ (a : Box), vs = [.d (eBox a)] ∧ a.length ≤ 1000 ∧ P (.d (ePl (plBox a)))
theorem law_plain_box : ∀ vs P, S_plain_box vs P → defD 2 (b_plain_box S_plain_of S_plain_span) vs P := by
  rintro vs P ⟨a, rfl, hz, h⟩
  simp [b_plain_box, startD, eBox]
  refine ⟨by omega, ?_⟩
  refine lc_map _ (fun x => ePr (plSp x)) _ _ (fun x hx N acc h => ?_) ?_
  · simp
    exact ⟨_, rfl, by simpa using h⟩
  · simp
    exact ⟨a.map plSp, by simp, by simpa using hz, h⟩
def S_greater_of : DF := fun vs P => ∃ (a b : Option Int), vs = [.d (eO a), .d (eO b)] ∧ P (.d (eO (gtr a b)))
theorem law_greater_of : ∀ vs P, S_greater_of vs P → defD 2 b_greater_of vs P := by
  rintro vs P ⟨a, b, rfl, h⟩
  rcases a with _ | l <;> rcases b with _ | k <;> simp [b_greater_of, startD, eO, gtr] at h ⊢ <;> try exact h
  by_cases hc : l < k
  · simpa [hc, eO] using h
  · simpa [hc, eO] using h
def S_lesser_of : DF := fun vs P => ∃ (a b : Option Int), vs = [.d (eO a), .d (eO b)] ∧ P (.d (eO (lsr a b)))
theorem law_lesser_of : ∀ vs P, S_lesser_of vs P → defD 2 b_lesser_of vs P := by
  rintro vs P ⟨a, b, rfl, h⟩
  rcases a with _ | l <;> rcases b with _ | k <;> simp [b_lesser_of, startD, eO, lsr] at h ⊢ <;> try exact h
  by_cases hc : k < l
  · simpa [hc, eO] using h
  · simpa [hc, eO] using h
def cm (p : Pr × Pr) : Pr := (gtr p.1.1 p.2.1, lsr p.1.2 p.2.2)
theorem comm_zip (a b : Pl) : comm a b = plOf ((a.zip b).map cm) := by
  unfold comm
  rw [← List.map_uncurry_zip_eq_zipWith]
  rfl
def S_common : DF := fun vs P => ∃ (a b : Pl), vs = [.d (ePl a), .d (ePl b)] ∧ a.length ≤ 1000 ∧ P (.d (ePl (comm a b)))
theorem law_common : ∀ vs P, S_common vs P → defD 5 (b_common S_lesser_of S_greater_of S_plain_of) vs P := by
  rintro vs P ⟨a, b, rfl, hz, h⟩
  simp [b_common, startD, ePl]
  rw [zipD_map]
  refine for_indT _ (fun rest e => ∃ dn x y, e = [some (.d (ePl a)), some (.d (ePl b)), some (.o (dn.map ePr)), x, y] ∧ dn ++ rest.map cm = (a.zip b).map cm ∧ dn.length + rest.length ≤ 1000) ?_ ?_ _ _ ?_
  · rintro ⟨⟨p1, p2⟩, ⟨q1, q2⟩⟩ rest e N ⟨dn, x, y, rfl, h1, h2⟩ hN
    simp [ePr]
    refine ⟨by simp at h2; omega, _, _, rfl, _, _, rfl, ?_⟩
    simp
    refine hN _ ⟨dn ++ [cm ((p1, p2), (q1, q2))], some (.d (ePr (p1, p2))), some (.d (ePr (q1, q2))), by simp [ePr, cm], ?_, ?_⟩
    · rw [← h1]
      simp
    · simp at h2 ⊢
      omega
  · rintro e ⟨dn, x, y, rfl, h1, h2⟩
    simp at h1
    simp
    refine ⟨dn, rfl, by simpa using h2, ?_⟩
    rw [comm_zip, ← h1] at h
    exact h
  · exact ⟨[], none, none, rfl, rfl, by simp; omega⟩
def S_lies_within : DF := fun vs P => ∃ (a b : Pl), vs = [.d (ePl a), .d (ePl b)] ∧ a.length ≤ 1000 ∧ P (.d (.bool (liesW a b)))
theorem law_lies_within : ∀ vs P, S_lies_within vs P → defD 2 (b_lies_within S_common) vs P := by
  rintro vs P ⟨a, b, rfl, hz, h⟩
  simp [b_lies_within, startD]
  refine ⟨a, b, rfl, hz, ?_⟩
  simp
  exact ⟨.inl (Nat.le_trans depth_Pl (by omega)), h⟩
end Bx
/-! Mx3: things, answers, trees, parts -/
namespace Bx
open PySem
structure Th where
  n : Int
  p : List Int
  w : Int
def eTh (t : Th) : PyData := .tuple [.int t.n, eNs t.p, .int t.w]
structure Ho where
  d : Nat
  ts : List Th
def eHo (h : Ho) : PyData := .tuple [.int h.d, .tuple (h.ts.map eTh)]
@[simp] theorem non_Th {t : Th} : isNoneD (eTh t) = false := rfl
def S_things_in : DF := fun vs P => ∃ (h : Ho) (b : Box), vs = [.d (eHo h), .d (eBox b)] ∧ h.ts.length ≤ 1000 ∧ b.length ≤ 1000 ∧ P (.o ((h.ts.filter fun t => fitsB b t.p).map eTh))
theorem law_things_in : ∀ vs P, S_things_in vs P → defD 3 (b_things_in S_fits) vs P := by
  rintro vs P ⟨h, b, rfl, hz, hb, hp⟩
  simp [b_things_in, startD, eHo]
  refine ⟨by omega, ?_⟩
  refine lc_filter _ (fun t => fitsB b t.p) eTh _ _ (fun x hx N acc h1 h2 => ?_) (by simpa using hp)
  simp [eTh]
  refine ⟨_, _, rfl, hb, ?_⟩
  simp
  cases hf : fitsB b x.p with
  | true => simpa [eTh] using h1 hf
  | false => simpa using h2 hf
def S_names_of : DF := fun vs P => ∃ (ts : List Th), vs = [.l (ts.map eTh)] ∧ ts.length ≤ 1000 ∧ P (.d (eNs (ts.map (·.n))))
theorem law_names_of : ∀ vs P, S_names_of vs P → defD 2 b_names_of vs P := by
  rintro vs P ⟨ts, rfl, hz, hp⟩
  simp [b_names_of, startD]
  refine ⟨by omega, ?_⟩
  refine lc_map _ (fun t => .int t.n) _ _ (fun x hx N acc h1 => ?_) ?_
  · simpa [eTh] using h1
  · simp
    simpa [eNs, Function.comp_def] using hp
/-- the order by place and name, as data -/
def leP (a b : Th) : Bool := PySem.W.dataLe false byP (eTh a) (eTh b)
theorem alike_ii {i j : Int} : PySem.W.alike (.int i) (.int j) = true := by simp only [PySem.W.alike]
theorem alike_Ns : ∀ (a b : List Int), PySem.W.alikeAll (a.map .int) (b.map .int) = true
  | [], _ => by simp only [List.map_nil, PySem.W.alikeAll]
  | _ :: _, [] => by simp only [List.map_nil, List.map_cons, PySem.W.alikeAll]
  | x :: a, y :: b => by simp only [List.map_cons, PySem.W.alikeAll, alike_ii, alike_Ns a b, Bool.and_self]
theorem alike_tn {a b : List Int} {m n : Int} : PySem.W.alike (.tuple [eNs a, .int m]) (.tuple [eNs b, .int n]) = true := by
  simp only [PySem.W.alike, PySem.W.alikeAll, eNs, alike_Ns, Bool.and_self]
theorem byP_Th (t : Th) : byP (eTh t) = .tuple [eNs t.p, .int t.n] := rfl
theorem allAlike_P (ts : List Th) : PySem.W.AllAlike ((ts.map eTh).map byP) := by
  intro d hd d' hd'
  simp at hd hd'
  obtain ⟨t, _, rfl⟩ := hd
  obtain ⟨u, _, rfl⟩ := hd'
  rw [byP_Th, byP_Th]
  exact alike_tn
theorem depth_P (t : Th) : (byP (eTh t)).depth ≤ 2 := by
  rw [byP_Th]
  refine depth_tup fun x hx => ?_
  simp at hx
  rcases hx with rfl | rfl
  · exact depth_Ns
  · simp
theorem map_msort {α : Type} {f : α → PyData} {le : PyData → PyData → Bool} (l : List α) : (l.map f).mergeSort le = (l.mergeSort fun a b => le (f a) (f b)).map f := (List.map_mergeSort (f := f) (r := fun a b => le (f a) (f b)) (s := le) (l := l) fun _ _ _ _ => rfl).symm
def S_in_order : DF := fun vs P => ∃ (ts : List Th), vs = [.l (ts.map eTh)] ∧ ts.length ≤ 1000 ∧ P (.o ((ts.mergeSort leP).map eTh))
theorem law_in_order : ∀ vs P, S_in_order vs P → defD 1 b_in_order vs P := by
  rintro vs P ⟨ts, rfl, hz, hp⟩
  simp [b_in_order, startD, dSortP]
  refine ⟨by omega, fun t _ => ⟨_, _, _, rfl⟩, ?_, fun t _ => Nat.le_trans (depth_P t) (by omega), ?_⟩
  · have := allAlike_P ts
    rwa [List.map_map] at this
  · rw [map_msort]
    exact hp
inductive Wd where
  | count | sum | all
def Wd.str : Wd → Str
  | .count => "count"
  | .sum => "sum"
  | .all => "all"
def ansOf (ts : List Th) : Wd → PyData
  | .count => .int ts.length
  | .sum => .int (ts.map (·.w)).sum
  | .all => eNs ((ts.mergeSort leP).map (·.n))
def S_answer_of : DF := fun vs P => ∃ (ts : List Th) (q : Wd) (r : PyData), vs = [.l (ts.map eTh), .d (.tuple [.str q.str, r])] ∧ ts.length ≤ 1000 ∧ P (.d (ansOf ts q))
theorem law_answer_of : ∀ vs P, S_answer_of vs P → defD 4 (b_answer_of S_names_of S_in_order) vs P := by
  rintro vs P ⟨ts, q, r, rfl, hz, hp⟩
  have e1 : (("sum" : Str) = "count") = False := eq_false (by decide +kernel)
  have e2 : (("all" : Str) = "count") = False := eq_false (by decide +kernel)
  have e3 : (("all" : Str) = "sum") = False := eq_false (by decide +kernel)
  have e4 : (("all" : Str) = "least") = False := eq_false (by decide +kernel)
  have e5 : (("all" : Str) = "most") = False := eq_false (by decide +kernel)
  cases q with
  | count => simpa [b_answer_of, startD, Wd.str, ansOf] using hp
  | sum =>
    simp [b_answer_of, startD, Wd.str, ansOf, e1]
    refine ⟨by omega, ?_⟩
    refine lc_map _ (fun t => .int t.w) _ _ (fun x hx N acc h1 => ?_) ?_
    · simpa [eTh] using h1
    · exact f_sum (ns := ts.map fun t : Th => t.w) (by simp) hp
  | all =>
    simp [b_answer_of, startD, Wd.str, ansOf, e2, e3, e4, e5]
    refine ⟨_, rfl, hz, ?_⟩
    simp
    exact ⟨_, rfl, by simpa using hz, hp⟩
def S_answer : DF := fun vs P => ∃ (h : Ho) (b : Box) (q : Wd), vs = [.d (eHo h), .d (.tuple [.str q.str, eBox b])] ∧ h.ts.length ≤ 1000 ∧ b.length ≤ 1000 ∧ P (.d (ansOf (h.ts.filter fun t => fitsB b t.p) q))
theorem law_answer : ∀ vs P, S_answer vs P → defD 2 (b_answer S_answer_of S_things_in) vs P := by
  rintro vs P ⟨h, b, q, rfl, hz, hb, hp⟩
  simp [b_answer, startD]
  refine ⟨_, _, rfl, hz, hb, ?_⟩
  simp
  refine ⟨_, _, _, rfl, ?_, hp⟩
  exact Nat.le_trans (List.length_filter_le _ _) hz
/-! ### trees -/
abbrev Bs := List (Int × Int)
def sb (p : Int × Int) : Pr := (some p.1, some p.2)
def eBs (b : Bs) : PyData := ePl (b.map sb)
inductive Tr where
  | leaf (ns : List Int) (bs : Bs)
  | node (ns : List Int) (bs : Bs) (l r : Tr)
def Tr.ns : Tr → List Int
  | .leaf n _ => n
  | .node n _ _ _ => n
def Tr.bs : Tr → Bs
  | .leaf _ b => b
  | .node _ b _ _ => b
def eTr : Tr → PyData
  | .leaf n b => .tuple [eNs n, eBs b, .none, .none]
  | .node n b l r => .tuple [eNs n, eBs b, eTr l, eTr r]
theorem eTr_tup (t : Tr) : ∃ a b, eTr t = .tuple [eNs t.ns, eBs t.bs, a, b] := by
  cases t <;> exact ⟨_, _, rfl⟩
@[simp] theorem non_Tr {t : Tr} : isNoneD (eTr t) = false := by cases t <;> rfl
def Tr.at : Tr → List Bool → Option Tr
  | t, [] => some t
  | .leaf _ _, _ :: _ => none
  | .node _ _ l r, b :: p => if b then r.at p else l.at p
def eStep (b : Bool) : PyData := .int (if b then 1 else 0)
def ePath (p : List Bool) : PyData := .tuple (p.map eStep)
def S_tree_at : DF := fun vs P => ∃ (t u : Tr) (p : List Bool), vs = [.d (eTr t), .d (ePath p)] ∧ t.at p = some u ∧ P (.d (eTr u))
theorem law_tree_at : ∀ vs P, S_tree_at vs P → defD 3 b_tree_at vs P := by
  rintro vs P ⟨t, u, p, rfl, hu, hp⟩
  simp [b_tree_at, startD, ePath]
  refine for_indT _ (fun rest e => ∃ t x, e = [some (.d (eTr t)), some (.d (ePath p)), x] ∧ t.at rest = some u) ?_ ?_ _ _ ⟨t, none, rfl, hu⟩
  · rintro b rest e N ⟨t, x, rfl, h1⟩ hN
    cases t with
    | leaf n bs => simp [Tr.at] at h1
    | node n bs l r =>
      cases b with
      | false =>
        simp [eStep, eTr]
        exact hN _ ⟨l, _, rfl, by simpa [Tr.at] using h1⟩
      | true =>
        simp [eStep, eTr]
        exact hN _ ⟨r, _, rfl, by simpa [Tr.at] using h1⟩
  · rintro e ⟨t, x, rfl, h1⟩
    simp [Tr.at] at h1
    subst h1
    simpa using hp
inductive Pk where
  | inn | out (i : Nat) (s : Bool) | far
structure Pt where
  p : List Bool
  k : Pk
def ePt (q : Pt) : PyData := .tuple (ePath q.p :: (match q.k with
  | .inn => [.str "in"]
  | .out i s => [.str "out", .int i, eStep s]
  | .far => [.str "far"]))
def liesOut (bs : Bs) (pl : Pl) (i : Nat) (s : Bool) : Bool := match pl[i]?, bs[i]? with
  | some q, some b => if q = (some 1, some 0) then true else if s = false then (match q.1 with | some l => decide (b.2 < l) | none => false) else (match q.2 with | some g => decide (b.1 > g) | none => false)
  | _, _ => false
def S_lies_out : DF := fun vs P => ∃ (bs : Bs) (pl : Pl) (i : Nat) (s : Bool), vs = [.d (eBs bs), .d (ePl pl), .d (.int i), .d (eStep s)] ∧ i < bs.length ∧ i < pl.length ∧ P (.d (.bool (liesOut bs pl i s)))
theorem at_enc {α : Type} {f : α → PyData} {xs : List α} {i : Nat} (h : i < xs.length) : L2.atI (xs.map f) (i : Int) = some (f xs[i]) := by
  rw [at_map, at_nat h]
  rfl
theorem law_lies_out : ∀ vs P, S_lies_out vs P → defD 6 b_lies_out vs P := by
  rintro vs P ⟨bs, pl, i, s, rfl, hb, hl, hp⟩
  have h1 := at_enc (f := ePr) hl
  have h2 : L2.atI (bs.map (ePr ∘ sb)) (i : Int) = some (ePr (sb bs[i])) := by
    rw [at_map, at_nat hb]
    rfl
  have h3 : pl[i]? = some pl[i] := List.getElem?_eq_getElem hl
  have h4 : bs[i]? = some bs[i] := List.getElem?_eq_getElem hb
  have e0 : PyData.tuple [PyData.int 1, PyData.int 0] = ePr (some 1, some 0) := rfl
  unfold liesOut at hp
  rw [h3, h4] at hp
  simp only at hp
  generalize pl[i] = q at *
  generalize bs[i] = b at *
  obtain ⟨q1, q2⟩ := q
  have e1 : ePr (q1, q2) = .tuple [eO q1, eO q2] := rfl
  have d1 : (ePr (q1, q2)).depth ≤ 60 := Nat.le_trans depth_Pr (by omega)
  have e2 : PyData.eqv (eO q1) (.int 1) = decide (q1 = some 1) := eqv_O (b := some 1)
  have e3 : PyData.eqv (eO q2) (.int 0) = decide (q2 = some 0) := eqv_O (b := some 0)
  rw [e1] at h1 d1
  simp [b_lies_out, startD, eBs, ePl, h1, h2, d1, e2, e3]
  by_cases hq : q1 = some 1 ∧ q2 = some 0
  · rw [if_pos (by rw [hq.1, hq.2])] at hp
    simpa [hq] using hp
  · rw [if_neg (by simpa using hq)] at hp
    rw [if_neg hq]
    cases s with
    | false =>
      cases q1 with
      | none => simpa [eStep, eO, sb, ePr] using hp
      | some l => simpa [eStep, eO, sb, ePr] using hp
    | true =>
      cases q2 with
      | none => simpa [eStep, eO, sb, ePr] using hp
      | some l => simpa [eStep, eO, sb, ePr] using hp
/-! ### looks at parts -/
def S_is_count : DF := fun vs P => ∃ (i m : Int), vs = [.d (.int i), .d (.int m)] ∧ P (.d (.bool (decide (0 ≤ i) && decide (i < m))))
theorem law_is_count : ∀ vs P, S_is_count vs P → defD 2 b_is_count vs P := by
  rintro vs P ⟨i, m, rfl, hp⟩
  simp [b_is_count, startD]
  have e1 : isiB (.int i) "int" = true := by
    show isiS "int" "int" = true
    decide +kernel
  have e2 : isiB (.int i) "bool" = false := by
    show isiS "int" "bool" = false
    decide +kernel
  simp [e1, e2]
  by_cases h : 0 ≤ i
  · simpa [h] using hp
  · simpa [h] using hp
def S_is_path : DF := fun vs P => ∃ (p : List Bool), vs = [.d (ePath p)] ∧ p.length ≤ 1000 ∧ P (.d (.bool true))
theorem step_lt (b : Bool) : (decide ((0 : Int) ≤ (if b then 1 else 0)) && decide ((if b then 1 else 0 : Int) < 2)) = true := by cases b <;> rfl
theorem isi_path {p : List Bool} : isiB (ePath p) "tuple" = true := by
  show isiS "tuple" "tuple" = true
  decide +kernel
theorem law_is_path : ∀ vs P, S_is_path vs P → defD 2 (b_is_path S_is_count) vs P := by
  rintro vs P ⟨p, rfl, hz, hp⟩
  simp [b_is_path, startD, isi_path]
  simp [ePath]
  refine ⟨by omega, ?_⟩
  refine lc_map _ (fun _ => .bool true) _ _ (fun x hx N acc h1 => ?_) ?_
  · simp [eStep]
    exact ⟨_, _, rfl, by rw [step_lt]; simpa using h1⟩
  · have e : (p.map fun _ => true).all id = true := List.all_eq_true.mpr fun x hx => by
      obtain ⟨_, _, rfl⟩ := List.mem_map.mp hx
      rfl
    exact f_all (ns := p.map fun _ => true) (by simp) (by rw [e]; exact hp)
def S_there : DF := fun vs P => ∃ (t u : Tr) (q : Pt), vs = [.d (eTr t), .d (ePt q)] ∧ q.p.length ≤ 1000 ∧ t.at q.p = some u ∧ P (.d (eTr u))
theorem isi_tup {xs : List PyData} : isiB (.tuple xs) "tuple" = true := by
  show isiS "tuple" "tuple" = true
  decide +kernel
theorem isi_str {x : Str} : isiB (.str x) "str" = true := by
  show isiS "str" "str" = true
  decide +kernel
theorem law_there : ∀ vs P, S_there vs P → defD 2 (b_there S_is_path S_tree_at) vs P := by
  rintro vs P ⟨t, u, ⟨p, k⟩, rfl, hz, hu, hp⟩
  cases k with
  | inn =>
    simp [b_there, startD, ePt, isi_tup, isi_str, flatD]
    refine ⟨_, rfl, hz, ?_⟩
    simp
    exact ⟨_, _, _, rfl, hu, hp⟩
  | out i s =>
    simp [b_there, startD, ePt, isi_tup, isi_str, flatD]
    refine ⟨_, rfl, hz, ?_⟩
    simp
    exact ⟨_, _, _, rfl, hu, hp⟩
  | far =>
    simp [b_there, startD, ePt, isi_tup, isi_str, flatD]
    refine ⟨_, rfl, hz, ?_⟩
    simp
    exact ⟨_, _, _, rfl, hu, hp⟩
/-- an out part names a place of the plain box -/
def okPt (n : Nat) (q : Pt) : Prop := match q.k with
  | .out i _ => i < n
  | _ => True
def isOut (bs : Bs) (pl : Pl) (q : Pt) : Bool := match q.k with
  | .out i s => liesOut bs pl i s
  | _ => false
def isIn (bs : Bs) (pl : Pl) (q : Pt) : Bool := match q.k with
  | .inn => liesW (bs.map sb) pl
  | _ => false
theorem tr_at1 (u : Tr) : L2.atI [eNs u.ns, eBs u.bs, .none, .none] 1 = some (eBs u.bs) := at_1
def S_is_out : DF := fun vs P => ∃ (pl : Pl) (u : Tr) (q : Pt), vs = [.d (ePl pl), .d (eTr u), .d (ePt q)] ∧ okPt pl.length q ∧ u.bs.length = pl.length ∧ P (.d (.bool (isOut u.bs pl q)))
theorem law_is_out : ∀ vs P, S_is_out vs P → defD 3 (b_is_out S_is_count S_lies_out) vs P := by
  rintro vs P ⟨pl, u, ⟨p, k⟩, rfl, hk, hl, hp⟩
  obtain ⟨ta, tb, ht⟩ := eTr_tup u
  have n1 : (("in" : Str) = "out") = False := eq_false (by decide +kernel)
  cases k with
  | inn => simpa [b_is_out, startD, ePt, isOut] using hp
  | far => simpa [b_is_out, startD, ePt, isOut] using hp
  | out i s =>
    have hi : i < pl.length := hk
    simp [b_is_out, startD, ePt, ht]
    simp [ePl]
    refine ⟨_, _, rfl, ?_⟩
    simp [hi]
    refine ⟨_, _, rfl, ?_⟩
    rw [step_lt]
    simp
    exact ⟨_, _, _, _, rfl, by omega, hi, hp⟩
def S_is_in : DF := fun vs P => ∃ (pl : Pl) (u : Tr) (q : Pt), vs = [.d (ePl pl), .d (eTr u), .d (ePt q)] ∧ u.bs.length ≤ 1000 ∧ P (.d (.bool (isIn u.bs pl q)))
theorem law_is_in : ∀ vs P, S_is_in vs P → defD 3 (b_is_in S_lies_within) vs P := by
  rintro vs P ⟨pl, u, ⟨p, k⟩, rfl, hl, hp⟩
  obtain ⟨ta, tb, ht⟩ := eTr_tup u
  have n1 : (("far" : Str) = "in") = False := eq_false (by decide +kernel)
  cases k with
  | inn =>
    simp [b_is_in, startD, ePt, ht]
    exact ⟨_, _, rfl, by simpa using hl, hp⟩
  | far => simpa [b_is_in, startD, ePt, isIn, n1] using hp
  | out i s => simpa [b_is_in, startD, ePt, isIn] using hp

/-! ### a cover's look -/
theorem ints_alike (ns : List Int) : PySem.W.AllAlike (ns.map PyData.int) := by
  intro d hd d' hd'
  obtain ⟨t, _, rfl⟩ := List.mem_map.mp hd
  obtain ⟨u, _, rfl⟩ := List.mem_map.mp hd'
  exact alike_ii
theorem ints_sortable (ns : List Int) : PySem.W.Sortable (ns.map PyData.int) := .inr fun d hd => by
  obtain ⟨t, _, rfl⟩ := List.mem_map.mp hd
  exact ⟨by simp, by simp⟩
theorem ints_depth (ns : List Int) : ∀ d ∈ ns.map PyData.int, d.depth ≤ 50 := fun d hd => by
  obtain ⟨t, _, rfl⟩ := List.mem_map.mp hd
  simp
/-- sorted whole numbers -/
def srtI (ns : List Int) : List Int := ns.mergeSort fun a b => PySem.W.dataLe false id (.int a) (.int b)
theorem srtI_map (ns : List Int) : (ns.map PyData.int).mergeSort (PySem.W.dataLe false id) = (srtI ns).map .int := map_msort ns
theorem srtI_perm (ns : List Int) : (srtI ns).Perm ns := List.mergeSort_perm _ _
theorem depth_ints {ns : List Int} : (PyData.list (ns.map .int)).depth ≤ 60 := Nat.le_trans (depth_lst (k := 0) fun x hx => by
  obtain ⟨_, _, rfl⟩ := List.mem_map.mp hx
  simp) (by omega)
def onceB (t : Tr) (us : List Tr) : Bool := decide (srtI (us.flatMap Tr.ns) = t.ns)
def S_has_each_once : DF := fun vs P => ∃ (t : Tr) (us : List Tr), vs = [.d (eTr t), .l (us.map eTr)] ∧ us.length ≤ 100 ∧ (∀ u ∈ us, u.ns.length ≤ 100) ∧ P (.d (.bool (onceB t us)))
theorem law_has_each_once : ∀ vs P, S_has_each_once vs P → defD 4 b_has_each_once vs P := by
  rintro vs P ⟨t, us, rfl, hz, hn, hp⟩
  obtain ⟨ta, tb, ht⟩ := eTr_tup t
  simp [b_has_each_once, startD]
  refine for_indT _ (fun rest e => ∃ dn x, e = [some (.d (eTr t)), some (.l (us.map eTr)), some (.o (dn.map .int)), x] ∧ dn ++ rest.flatMap Tr.ns = us.flatMap Tr.ns ∧ (∀ u ∈ rest, u.ns.length ≤ 100) ∧ dn.length + rest.length * 100 ≤ 10000) ?_ ?_ _ _ ⟨[], none, rfl, rfl, hn, by simp; omega⟩
  · rintro u rest e N ⟨dn, x, rfl, h1, h2, h3⟩ hN
    obtain ⟨ua, ub, hu⟩ := eTr_tup u
    have hul := h2 u (by simp)
    simp at h3
    simp [hu, eNs]
    refine ⟨by omega, by omega, hN _ ⟨dn ++ u.ns, _, by simp [hu, eNs]; rfl, by simpa using h1, fun v hv => h2 v (by simp [hv]), by simp; omega⟩⟩
  · rintro e ⟨dn, x, rfl, h1, h2, h3⟩
    simp at h1
    simp at h3
    have hs := ints_sortable dn
    simp [ht, eNs, ints_alike, hs, srtI_map]
    refine ⟨by omega, .inl depth_ints, ?_⟩
    rw [eqv_Ns, h1]
    exact hp
def partsOk (t : Tr) (n : Nat) (qs : List Pt) : Prop := qs.length ≤ 100 ∧ ∀ q ∈ qs, q.p.length ≤ 1000 ∧ okPt n q ∧ ∃ u, t.at q.p = some u ∧ u.bs.length = n ∧ u.ns.length ≤ 100
def atq (t : Tr) (q : Pt) : Tr := (t.at q.p).getD t
theorem atq_eq {t u : Tr} {q : Pt} (h : t.at q.p = some u) : atq t q = u := by
  unfold atq
  rw [h]
  rfl
def showsB (t : Tr) (pl : Pl) (qs : List Pt) : Bool := (qs.all fun q => isIn (atq t q).bs pl q || isOut (atq t q).bs pl q) && onceB t (qs.map (atq t))
theorem plBox_len (b : Box) : (plBox b).length = b.length := by
  unfold plBox plOf
  split <;> simp
theorem zip_map_self {α β : Type} (f : α → β) (xs : List α) : (xs.map f).zip xs = xs.map fun x => (f x, x) := by
  induction xs with
  | nil => rfl
  | cons x xs ih => simp [ih]
theorem zipD_parts {t : Tr} (qs : List Pt) : zipD ((qs.map (atq t)).map eTr) (qs.map ePt) = qs.map fun q => PyData.tuple [eTr (atq t q), ePt q] := by
  rw [zipD_map, zip_map_self, List.map_map]
  rfl
def S_shows_cover : DF := fun vs P => ∃ (t : Tr) (ho : PyData) (b : Box) (qs : List Pt), vs = [.d ho, .d (eTr t), .d (eBox b), .d (.tuple (qs.map ePt))] ∧ b.length ≤ 1000 ∧ partsOk t b.length qs ∧ P (.d (.bool (showsB t (plBox b) qs)))
theorem law_shows_cover : ∀ vs P, S_shows_cover vs P → defD 8 (b_shows_cover S_plain_box S_there S_is_in S_is_out S_has_each_once) vs P := by
  rintro vs P ⟨t, ho, b, qs, rfl, hb, ⟨hq, hqs⟩, hp⟩
  simp [b_shows_cover, startD, isi_tup]
  refine ⟨b, rfl, hb, ?_⟩
  simp
  refine ⟨by omega, ?_⟩
  refine lc_map _ (fun q => eTr (atq t q)) _ _ (fun q hx N acc h1 => ?_) ?_
  · obtain ⟨a1, a2, u, a3, a4, a5⟩ := hqs q hx
    simp
    refine ⟨t, u, q, rfl, a1, a3, ?_⟩
    rw [atq_eq a3] at h1
    simpa using h1
  · simp
    have e0 : (qs.map fun q => eTr (atq t q)) = (qs.map (atq t)).map eTr := by rw [List.map_map]; rfl
    rw [e0, zipD_parts]
    refine for_indT _ (fun rest e => ∃ x y, e = [some (.d ho), some (.d (eTr t)), some (.d (eBox b)), some (.d (.tuple (qs.map ePt))), some (.d (ePl (plBox b))), some (.l (qs.map (eTr ∘ atq t))), x, y] ∧ (∀ q ∈ rest, q ∈ qs) ∧
      ((rest.all fun q => isIn (atq t q).bs (plBox b) q || isOut (atq t q).bs (plBox b) q) && onceB t (qs.map (atq t))) = showsB t (plBox b) qs) ?_ ?_ _ _ ⟨none, none, by simp, fun _ h => h, rfl⟩
    · rintro q rest e N ⟨x, y, rfl, h1, h2⟩ hN
      obtain ⟨a1, a2, u, a3, a4, a5⟩ := hqs q (h1 q (by simp))
      have au := atq_eq a3
      simp
      refine ⟨plBox b, u, q, by rw [au], by omega, ?_⟩
      rw [List.all_cons, au] at h2
      cases hi : isIn u.bs (plBox b) q with
      | true =>
        simp
        exact hN _ ⟨_, _, rfl, fun q hq => h1 q (by simp [hq]), by simpa [hi] using h2⟩
      | false =>
        simp
        refine ⟨plBox b, u, q, by rw [au], by rw [plBox_len]; exact a2, by rw [plBox_len]; exact a4, ?_⟩
        cases ho' : isOut u.bs (plBox b) q with
        | true =>
          simp
          exact hN _ ⟨_, _, rfl, fun q hq => h1 q (by simp [hq]), by simpa [hi, ho'] using h2⟩
        | false =>
          simp
          rw [hi, ho'] at h2
          simp at h2
          rw [h2] at hp
          exact hp
    · rintro e ⟨x, y, rfl, h1, h2⟩
      simp
      refine ⟨t, qs.map (atq t), by simp, by simpa using hq, fun u hu => ?_, ?_⟩
      · obtain ⟨q, hq, rfl⟩ := List.mem_map.mp hu
        obtain ⟨a1, a2, u, a3, a4, a5⟩ := hqs q hq
        rw [atq_eq a3]
        exact a5
      · simp at h2
        rw [← h2] at hp
        exact hp
end Bx
/-! Mx4: dicts, covers' answers, drawing -/
namespace Bx
open PySem
/-! ### dicts -/
theorem fm_none {n : Int} : ∀ (ps : List (Int × PyData)) (f : Int → Option PyData), (∀ p ∈ ps, p.1 ≠ n) → fmerge f ps n = f n
  | [], f, _ => rfl
  | p :: ps, f, h => by
    have := fm_none ps (fput f p.1 p.2) fun q hq => h q (by simp [hq])
    show fmerge (fput f p.1 p.2) ps n = f n
    rw [this]
    unfold fput
    rw [if_neg fun e => h p (by simp) e.symm]
theorem fm_some {p : Int × PyData} : ∀ (ps : List (Int × PyData)) (f : Int → Option PyData), p ∈ ps → (ps.map (·.1)).Nodup → fmerge f ps p.1 = some p.2
  | [], f, h, _ => by simp at h
  | q :: ps, f, h, nd => by
    rw [List.map_cons, List.nodup_cons] at nd
    show fmerge (fput f q.1 q.2) ps p.1 = some p.2
    rcases List.mem_cons.mp h with rfl | h
    · rw [fm_none ps _ (by intro r hr e; exact nd.1 (by rw [← e]; exact List.mem_map_of_mem hr))]
      unfold fput
      rw [if_pos rfl]
    · exact fm_some ps _ h nd.2
theorem fm_is {n : Int} : ∀ (ps : List (Int × PyData)) (f : Int → Option PyData), (fmerge f ps n).isSome = ((f n).isSome || ps.any fun p => decide (p.1 = n))
  | [], f => by simp [fmerge]
  | p :: ps, f => by
    show (fmerge (fput f p.1 p.2) ps n).isSome = _
    rw [fm_is ps (fput f p.1 p.2), List.any_cons]
    unfold fput
    by_cases h : n = p.1
    · subst h
      simp
    · rw [if_neg h]
      have : decide (p.1 = n) = false := decide_eq_false fun e => h e.symm
      simp [this]
@[simp] theorem atq_d {t : Tr} {q : Pt} : isNoneD (eTr (atq t q)) = false := non_Tr
def tookB (t : Tr) (qs : List Pt) (n : Int) : Bool := qs.any fun q => match q.k with
  | .inn => (atq t q).ns.any fun m => decide (m = n)
  | _ => false
def S_by_cover : DF := fun vs P => ∃ (h : Ho) (t : Tr) (b : Box) (qs : List Pt) (q : Wd) (bx : PyData), vs = [.d (eHo h), .d (eTr t), .d bx, .d (.tuple (qs.map ePt)), .d (.tuple [.str q.str, eBox b])] ∧ h.ts.length ≤ 1000 ∧ b.length ≤ 1000 ∧ partsOk t b.length qs ∧
  P (.d (ansOf ((h.ts.filter fun x => tookB t qs x.n).filter fun x => fitsB b x.p) q))
theorem law_by_cover : ∀ vs P, S_by_cover vs P → defD 9 (b_by_cover S_tree_at S_answer) vs P := by
  rintro vs P ⟨h, t, b, qs, w, bx, rfl, hz, hb, ⟨hq, hqs⟩, hp⟩
  have n1 : (("far" : Str) = "in") = False := eq_false (by decide +kernel)
  simp [b_by_cover, startD]
  refine for_indT _ (fun rest e => ∃ m f x, e = [some (.d (eHo h)), some (.d (eTr t)), some (.d bx), some (.d (.tuple (qs.map ePt))), some (.d (.tuple [.str w.str, eBox b])), some (.dn m f), x, none, none] ∧ (∀ q ∈ rest, q ∈ qs) ∧ m + rest.length * 100 ≤ 10000 ∧
    ∀ n, ((f n).isSome || tookB t rest n) = tookB t qs n) ?_ ?_ _ _ ⟨0, fun _ => none, none, rfl, fun _ h => h, by omega, fun n => by simp⟩
  · rintro ⟨p, k⟩ rest e N ⟨m, f, x, rfl, h1, h2, h3⟩ hN
    obtain ⟨a1, a2, u, a3, a4, a5⟩ := hqs ⟨p, k⟩ (h1 _ (by simp))
    obtain ⟨ua, ub, hu⟩ := eTr_tup u
    have au := atq_eq a3
    simp at h2
    cases k with
    | inn =>
      simp [ePt]
      refine ⟨m, f, ⟨rfl, rfl⟩, t, u, p, rfl, a3, ?_⟩
      simp [hu]
      simp [eNs]
      refine ⟨by omega, ?_⟩
      refine lc_map _ (fun n => pairD (n, .bool true)) _ _ (fun n hn N acc h1 => ?_) ?_
      · simpa [pairD] using h1
      · simp
        refine ⟨u.ns.map fun n => (n, .bool true), by simp, by simp; omega, ?_⟩
        refine hN _ ⟨_, _, _, rfl, fun q hq => h1 q (by simp [hq]), by simp; omega, fun n => ?_⟩
        rw [← h3 n, fm_is]
        simp [tookB, au, List.any_map, Function.comp_def, Bool.or_assoc]
    | far =>
      simp [ePt, n1]
      refine hN _ ⟨m, f, _, rfl, fun q hq => h1 q (by simp [hq]), by omega, fun n => ?_⟩
      rw [← h3 n]
      simp [tookB]
    | out i s =>
      simp [ePt]
      refine hN _ ⟨m, f, _, rfl, fun q hq => h1 q (by simp [hq]), by omega, fun n => ?_⟩
      rw [← h3 n]
      simp [tookB]
  · rintro e ⟨m, f, x, rfl, h1, h2, h3⟩
    simp [eHo]
    refine ⟨by omega, ?_⟩
    refine lc_filter _ (fun x => tookB t qs x.n) eTh _ _ (fun y hy N acc h4 h5 => ?_) ?_
    · have h6 := h3 y.n
      simp [tookB] at h6
      simp [eTh]
      cases hf : (f y.n).isSome with
      | true => 
        rw [hf] at h6
        simpa [eTh] using h4 (by rw [← h3 y.n, hf]; rfl)
      | false =>
        rw [hf] at h6
        simpa using h5 (by rw [← h3 y.n, hf]; simp [tookB])
    · simp
      refine ⟨⟨h.d, h.ts.filter fun x => tookB t qs x.n⟩, b, w, by simp [eHo], Nat.le_trans (List.length_filter_le _ _) hz, hb, ?_⟩
      exact hp
/-! ### steps, keys -/
def stp (b : Int × Int) (n : Int) : Int := mx2 (mx2 0 (b.1 - n)) (n - b.2)
def stepsT (bs : Bs) (p : List Int) : Int := (List.zipWith stp bs p).sum
def eB (b : Int × Int) : PyData := ePr (sb b)
theorem eBs_map (bs : Bs) : eBs bs = .tuple (bs.map eB) := by
  unfold eBs ePl
  rw [List.map_map]
  rfl
def S_steps_to : DF := fun vs P => ∃ (v : Val) (bs : Bs) (p : List Int), vs = [v, .d (eNs p)] ∧ (v = .d (eBs bs) ∨ v = .l (bs.map eB)) ∧ P (.d (.int (stepsT bs p)))
theorem law_steps_to : ∀ vs P, S_steps_to vs P → defD 6 b_steps_to vs P := by
  rintro vs P ⟨v, bs, p, rfl, hv, hp⟩
  have hf : v.fix = some (bs.map eB) := by
    rcases hv with rfl | rfl
    · rw [eBs_map]
      rfl
    · rfl
  simp [b_steps_to, startD, hf, eNs]
  rw [zipD_map]
  refine for_indT _ (fun rest e => ∃ (s : Int) (x y z : Option Val), e = [some v, some (.d (.tuple (p.map .int))), some (.d (.int s)), x, y, z] ∧ s + (rest.map fun r => stp r.1 r.2).sum = stepsT bs p) ?_ ?_ _ _ ⟨0, none, none, none, rfl, ?_⟩
  · rintro ⟨⟨lo, hi⟩, n⟩ rest e N ⟨s, x, y, z, rfl, h1⟩ hN
    simp [eB, sb, ePr, eO]
    refine hN _ ⟨_, _, _, _, rfl, ?_⟩
    rw [← h1]
    simp [stp]
    omega
  · rintro e ⟨s, x, y, z, rfl, h1⟩
    simp at h1
    simp [h1]
    exact hp
  · unfold stepsT
    rw [← List.map_uncurry_zip_eq_zipWith, Int.zero_add]
    rfl
def wDict (h : Ho) : Int → Option PyData := fmerge (fun _ => none) (h.ts.map fun t => (t.n, .int t.w))
def S_worths_of : DF := fun vs P => ∃ (h : Ho), vs = [.d (eHo h)] ∧ h.ts.length ≤ 1000 ∧ P (.dn h.ts.length (wDict h))
theorem law_worths_of : ∀ vs P, S_worths_of vs P → defD 2 b_worths_of vs P := by
  rintro vs P ⟨h, rfl, hz, hp⟩
  simp [b_worths_of, startD, eHo]
  refine ⟨by omega, ?_⟩
  refine lc_map _ (fun t => pairD (t.n, .int t.w)) _ _ (fun t ht N acc h1 => ?_) ?_
  · simpa [pairD, eTh] using h1
  · refine ⟨_, h.ts.map fun t => (t.n, .int t.w), rfl, by simp, ?_⟩
    simpa [wDict] using hp
inductive Ki where
  | best | near (p : List Int)
def eKi : Ki → PyData
  | .best => .tuple [.str "best"]
  | .near p => .tuple [.str "near", eNs p]
def mxL : List Int → Int
  | [] => 0
  | [x] => x
  | x :: y :: r => max x (mxL (y :: r))
theorem mxL_is : ∀ (ns : List Int) (m : Int), m ∈ ns → (∀ y ∈ ns, y ≤ m) → m = mxL ns
  | [], m, h, _ => by simp at h
  | [x], m, h, _ => by simpa [mxL] using h
  | x :: y :: r, m, h, hu => by
    have ub : ∀ (l : List Int) (z : Int), l ≠ [] → (∀ w ∈ l, w ≤ z) → mxL l ≤ z := by
      intro l
      induction l with
      | nil => intro z h; exact absurd rfl h
      | cons a l ih =>
        intro z _ hw
        cases l with
        | nil => simpa [mxL] using hw a (by simp)
        | cons b l =>
          have := ih z (by simp) fun w hw' => hw w (by simp [hw'])
          have := hw a (by simp)
          simp only [mxL]
          omega
    have lb : ∀ (l : List Int) (z : Int), z ∈ l → z ≤ mxL l := by
      intro l
      induction l with
      | nil => intro z h; simp at h
      | cons a l ih =>
        intro z hz
        cases l with
        | nil => simp at hz; simp [mxL, hz]
        | cons b l =>
          rcases List.mem_cons.mp hz with rfl | hz
          · simp only [mxL]
            omega
          · have := ih z hz
            simp only [mxL]
            omega
    have h1 := ub (x :: y :: r) m (by simp) hu
    have h2 := lb (x :: y :: r) m h
    omega
def hd0 (ns : List Int) : Int := ns.headD 0
def eK (k : Int × Int) : PyData := .tuple [.int k.1, .int k.2]
/-- a tree's key -/
def keyU (wof : Int → Int) (u : Tr) : Ki → Int × Int
  | .near p => (stepsT u.bs p, hd0 u.ns)
  | .best => (0 - mxL (u.ns.map wof), hd0 u.ns)
theorem cut_to {xs : List PyData} {k : Nat} : cut xs none (some (k : Int)) = xs.take k := by
  unfold cut
  rw [HT.sIx_nat]
  show (xs.drop 0).take (min k xs.length - 0) = xs.take k
  rw [List.drop_zero, Nat.sub_zero, List.take_eq_take_iff]
  omega
theorem cut_from {xs : List PyData} {k : Nat} : cut xs (some (k : Int)) none = xs.drop k := by
  unfold cut
  rw [HT.sIx_nat]
  show (xs.drop (min k xs.length)).take (xs.length - min k xs.length) = xs.drop k
  rw [List.take_of_length_le (by rw [List.length_drop]; omega)]
  by_cases h : k ≤ xs.length
  · rw [Nat.min_eq_left h]
  · rw [Nat.min_eq_right (by omega), List.drop_length, List.drop_eq_nil_of_le (by omega)]
theorem hd_at {ns : List Int} (h : ns ≠ []) : L2.atI (ns.map PyData.int) 0 = some (.int (hd0 ns)) := by
  cases ns with
  | nil => exact absurd rfl h
  | cons x r => simp [hd0]
def S_key_by : DF := fun vs P => ∃ (f : Int → Option PyData) (wof : Int → Int) (u : Tr) (k : Ki), vs = [.dk f, .d (eTr u), .d (eKi k)] ∧ u.ns ≠ [] ∧ u.ns.length ≤ 1000 ∧ (∀ n ∈ u.ns, f n = some (.int (wof n))) ∧ P (.d (eK (keyU wof u k)))
theorem law_key_by : ∀ vs P, S_key_by vs P → defD 6 (b_key_by S_steps_to) vs P := by
  rintro vs P ⟨f, wof, u, k, rfl, hne, hz, hw, hp⟩
  obtain ⟨ua, ub, hu⟩ := eTr_tup u
  have c2 : ∀ a b c d : PyData, cut [a, b, c, d] none (some 2) = [a, b] := fun a b c d => cut_to (k := 2)
  have n1 : (("best" : Str) = "near") = False := eq_false (by decide +kernel)
  simp [b_key_by, startD, hu, c2]
  cases k with
  | near p =>
    simp [eKi]
    refine ⟨_, u.bs, p, rfl, .inl rfl, ?_⟩
    simp [eNs, hd_at hne]
    exact hp
  | best =>
    simp [eKi, n1]
    simp [eNs, hd_at hne]
    refine ⟨by omega, ?_⟩
    refine lc_map _ (fun n => .int (wof n)) _ _ (fun n hn N acc h1 => ?_) ?_
    · simpa [hw n hn] using h1
    · refine ⟨_, u.ns.map wof, rfl, by simp, by simp; exact List.length_pos_iff.mpr hne, fun m h1 h2 => ?_⟩
      have := mxL_is _ m h1 h2
      subst this
      simpa [keyU, eK] using hp
def S_is_name_of : DF := fun vs P => ∃ (f : Int → Option PyData) (n : Int), vs = [.dk f, .d (.int n)] ∧ P (.d (.bool (f n).isSome))
theorem law_is_name_of : ∀ vs P, S_is_name_of vs P → defD 2 b_is_name_of vs P := by
  rintro vs P ⟨f, n, rfl, hp⟩
  have e1 : isiB (.int n) "int" = true := by
    show isiS "int" "int" = true
    decide +kernel
  have e2 : isiB (.int n) "bool" = false := by
    show isiS "int" "bool" = false
    decide +kernel
  simpa [b_is_name_of, startD, e1, e2] using hp
def farT (x : Th) : Ki → Int
  | .near p => stepsT (x.p.map fun n => (n, n)) p
  | .best => 0 - x.w
def keyT (k : Ki) (x : Th) : Int × Int := (farT x k, x.n)
def nodup (h : Ho) : Prop := (h.ts.map (·.n)).Nodup
def S_keys_told : DF := fun vs P => ∃ (h : Ho) (k : Ki) (us : List Th), vs = [.d (eHo h), .d (eKi k), .d (eNs (us.map (·.n)))] ∧ h.ts.length ≤ 1000 ∧ nodup h ∧ (∀ u ∈ us, u ∈ h.ts ∧ u.p.length ≤ 1000) ∧ us.length ≤ 1000 ∧ P (.o ((us.map (keyT k)).map eK))
theorem law_keys_told : ∀ vs P, S_keys_told vs P → defD 9 (b_keys_told S_steps_to) vs P := by
  rintro vs P ⟨h, k, us, rfl, hz, hn, hu, hus, hp⟩
  have n1 : (("best" : Str) = "near") = False := eq_false (by decide +kernel)
  simp [b_keys_told, startD, eHo]
  refine ⟨by omega, ?_⟩
  refine lc_map _ (fun t => pairD (t.n, eTh t)) _ _ (fun t ht N acc h1 => ?_) ?_
  · simpa [pairD, eTh] using h1
  · refine ⟨_, h.ts.map fun t => (t.n, eTh t), rfl, by simp, ?_⟩
    have hf : ∀ u ∈ us, fmerge (fun _ => none) (h.ts.map fun t => (t.n, eTh t)) u.n = some (eTh u) := fun u hu' =>
      fm_some (p := (u.n, eTh u)) _ _ (List.mem_map_of_mem (f := fun t : Th => (t.n, eTh t)) (hu u hu').1) (by rw [List.map_map]; exact hn)
    generalize fmerge (fun _ => none) (h.ts.map fun t => (t.n, eTh t)) = f at hf
    simp [eNs]
    rw [show (PyData.int ∘ fun x : Th => x.n) = fun x : Th => PyData.int x.n from rfl]
    refine for_indT _ (fun rest e => ∃ dn x y, e = [some (.d (.tuple [.int h.d, .tuple (h.ts.map eTh)])), some (.d (eKi k)), some (.d (.tuple (us.map fun x => .int x.n))), some (.dk f), some (.o (dn.map (eK ∘ keyT k))), x, y, none, none] ∧ dn ++ rest = us ∧ dn.length + rest.length ≤ 1000) ?_ ?_ _ _ ⟨[], none, none, rfl, rfl, by simpa using hus⟩
    · rintro u rest e N ⟨dn, x, y, rfl, h1, h2⟩ hN
      have hm : u ∈ us := by rw [← h1]; simp
      have hfu := hf u hm
      have hup := (hu u hm).2
      simp at h2
      cases k with
      | best =>
        simp [hfu, eTh, eKi, n1]
        refine ⟨by omega, hN _ ⟨dn ++ [u], some (.d (.int u.n)), some (.d (.int (-u.w))), by simp [eKi, eK, keyT, farT], by simpa using h1, by simp; omega⟩⟩
      | near p =>
        simp [hfu, eTh, eKi]
        simp [eNs]
        refine ⟨by omega, ?_⟩
        refine lc_map _ (fun n => eB (n, n)) _ _ (fun n hn N acc h1 => ?_) ?_
        · simpa [eB, ePr, sb, eO] using h1
        · simp
          refine ⟨_, u.p.map fun n => (n, n), p, rfl, .inr (by simp), ?_⟩
          simp
          refine ⟨by omega, hN _ ⟨dn ++ [u], some (.d (.int u.n)), some (.d (.int (stepsT (u.p.map fun n => (n, n)) p))), by simp [eKi, eK, keyT, farT, eNs], by simpa using h1, by simp; omega⟩⟩
    · rintro e ⟨dn, x, y, rfl, h1, h2⟩
      simp at h1
      subst h1
      simpa using hp
end Bx
/-! Mx5: the program's look at a drawn paper -/
namespace Bx
open PySem
structure House (h : Ho) : Prop where
  d1 : 1 ≤ h.d
  d4 : h.d ≤ 4
  len : h.ts.length ≤ 30
  nd : nodup h
  pl : ∀ x ∈ h.ts, x.p.length = h.d
  nm : ∀ x ∈ h.ts, 0 ≤ x.n ∧ x.n < 10 ^ 18
def inB (bs : Bs) (p : List Int) : Prop := F2 (fun b a => b.1 ≤ a ∧ a ≤ b.2) bs p
structure NodeOk (h : Ho) (u : Tr) : Prop where
  ne : u.ns ≠ []
  nl : u.ns.length ≤ 100
  bl : u.bs.length = h.d
  or : ∀ b ∈ u.bs, b.1 ≤ b.2
  nm : ∀ m ∈ u.ns, ∃ x ∈ h.ts, x.n = m ∧ inB u.bs x.p
structure Tree (h : Ho) (t : Tr) : Prop where
  sub : ∀ p u, t.at p = some u → NodeOk h u ∧ p.length ≤ 100
  root : t.ns.Perm (h.ts.map (·.n))
def Parts (h : Ho) (t : Tr) (qs : List Pt) : Prop := qs.length ≤ 100 ∧ ∀ q ∈ qs, okPt h.d q ∧ ∃ u, t.at q.p = some u
theorem Parts.ok {h : Ho} {t : Tr} {qs : List Pt} (p : Parts h t qs) (T : Tree h t) : partsOk t h.d qs := ⟨p.1, fun q hq => by
  obtain ⟨h1, u, h2⟩ := p.2 q hq
  obtain ⟨h3, h4⟩ := T.sub _ _ h2
  exact ⟨by omega, h1, u, h2, h3.bl, h3.nl⟩⟩
theorem Parts.at {h : Ho} {t : Tr} {qs : List Pt} (p : Parts h t qs) (T : Tree h t) {q : Pt} (hq : q ∈ qs) : okPt h.d q ∧ t.at q.p = some (atq t q) ∧ NodeOk h (atq t q) ∧ q.p.length ≤ 100 := by
  obtain ⟨h1, u, h2⟩ := p.2 q hq
  obtain ⟨h3, h4⟩ := T.sub _ _ h2
  have := atq_eq h2
  rw [this]
  exact ⟨h1, h2, h3, h4⟩
/-! ### keys -/
def ltK (a b : Int × Int) : Bool := PySem.W.dataLt (eK a) (eK b)
theorem alike_K {a b : Int × Int} : PySem.W.alike (eK a) (eK b) = true := by
  simp only [eK, PySem.W.alike, PySem.W.alikeAll, Bool.and_self]
theorem depth_K {a : Int × Int} : (eK a).depth ≤ 1 := depth_tup (by simp)
@[simp] theorem K_ne {a : Int × Int} : (eK a = PyData.none) = False := by simp [eK]
def wofH (h : Ho) (m : Int) : Int := match wDict h m with
  | some (.int w) => w
  | _ => 0
theorem wDict_at {h : Ho} (H : House h) {x : Th} (hx : x ∈ h.ts) : wDict h x.n = some (.int x.w) :=
  fm_some (p := (x.n, .int x.w)) _ _ (List.mem_map_of_mem (f := fun t : Th => (t.n, PyData.int t.w)) hx) (by rw [List.map_map]; exact H.nd)
theorem wofH_at {h : Ho} (H : House h) {x : Th} (hx : x ∈ h.ts) : wofH h x.n = x.w := by
  unfold wofH
  rw [wDict_at H hx]
theorem wDict_of {h : Ho} (H : House h) {u : Tr} (U : NodeOk h u) : ∀ m ∈ u.ns, wDict h m = some (.int (wofH h m)) := fun m hm => by
  obtain ⟨x, hx, rfl, _⟩ := U.nm m hm
  rw [wofH_at H hx, wDict_at H hx]
def isFarB (ks : List (Int × Int)) (key : Int × Int) (q : Pt) : Bool := match q.k with
  | .far => (match ks.getLast? with
    | none => true
    | some l => ltK l key)
  | _ => false
theorem at_last {α : Type} {xs : List α} {x : α} (h : xs.getLast? = some x) : L2.atI xs (-1) = some x := by
  have hne : xs ≠ [] := fun e => by rw [e] at h; cases h
  have hp := List.length_pos_iff.mpr hne
  unfold L2.atI L2.ixN
  rw [if_neg (by decide), if_pos (by omega)]
  show xs[(-1 + (xs.length : Int)).toNat]? = some x
  rw [← h, List.getLast?_eq_getElem?]
  congr 1
  omega
theorem eqL_nil (ks : List (Int × Int)) : PyData.eqvAll (ks.map eK) [] = decide (ks.getLast? = none) := by
  cases ks with
  | nil => rfl
  | cons a r => simp
theorem far_body {ks : List (Int × Int)} {key : Int × Int} {P : Val → Prop} (hp : P (.d (.bool (match ks.getLast? with | none => true | some l => ltK l key)))) :
    if ks.getLast? = none then P (.d (.bool true)) else ∃ v, L2.atI (ks.map eK) (-1) = some v ∧ PySem.W.alike (eK key) v = true ∧ P (.d (.bool (PySem.W.dataLt v (eK key)))) := by
  cases hl : ks.getLast? with
  | none => simpa [hl] using hp
  | some l =>
    rw [if_neg (by simp)]
    refine ⟨eK l, ?_, alike_K, by simpa [hl, ltK] using hp⟩
    rw [at_map, at_last hl]
    rfl
def S_is_far : DF := fun vs P => ∃ (f : Int → Option PyData) (wof : Int → Int) (u : Tr) (q : Pt) (k : Ki) (ks : List (Int × Int)), vs = [.dk f, .d (eTr u), .d (ePt q), .d (eKi k), .l (ks.map eK)] ∧ u.ns ≠ [] ∧ u.ns.length ≤ 1000 ∧ (∀ n ∈ u.ns, f n = some (.int (wof n))) ∧ P (.d (.bool (isFarB ks (keyU wof u k) q)))
theorem law_is_far : ∀ vs P, S_is_far vs P → defD 5 (b_is_far S_key_by) vs P := by
  rintro vs P ⟨f, wof, u, ⟨p, qk⟩, k, ks, rfl, h1, h2, h3, hp⟩
  have n1 : (("in" : Str) = "far") = False := eq_false (by decide +kernel)
  cases qk with
  | inn => simpa [b_is_far, startD, ePt, isFarB, n1] using hp
  | out i s => simpa [b_is_far, startD, ePt, isFarB, n1] using hp
  | far =>
    simp [b_is_far, startD, ePt]
    refine ⟨.inr (by simp only [PyData.depth, PyData.depthAll]; omega), ?_⟩
    rw [eqL_nil]
    have fb := far_body (key := keyU wof u k) (P := P) (by simpa [isFarB] using hp)
    by_cases hl : ks.getLast? = none
    · rw [if_pos hl] at fb
      rw [if_pos (by simpa using hl)]
      exact fb
    · rw [if_neg hl] at fb
      rw [if_neg (by simpa using hl)]
      obtain ⟨v, h4, h5, h6⟩ := fb
      refine ⟨f, wof, u, k, rfl, h1, h2, h3, ?_⟩
      simp only [ap_gtD, h4]
      refine ⟨v, rfl, ?_⟩
      simp [h5]
      exact ⟨Nat.le_trans depth_K (by omega), h6⟩
def turnB (h : Ho) (pl : Pl) (k : Ki) (ks : List (Int × Int)) (u : Tr) (q : Pt) : Option (Option Int) :=
  if isIn u.bs pl q && decide (u.ns.length = 1) then some (some (hd0 u.ns)) else if isOut u.bs pl q || isFarB ks (keyU (wofH h) u k) q then some none else none
def runB (h : Ho) (pl : Pl) (k : Ki) (ks : List (Int × Int)) (t : Tr) : List Pt → List Int → Option (List Int)
  | [], acc => some acc
  | q :: r, acc => match turnB h pl k ks (atq t q) q with
    | none => none
    | some none => runB h pl k ks t r acc
    | some (some n) => runB h pl k ks t r (acc ++ [n])
def pshowB (h : Ho) (t : Tr) (pl : Pl) (k : Ki) (ks : List (Int × Int)) (qs : List Pt) : Bool := match runB h pl k ks t qs [] with
  | none => false
  | some tk => decide (srtI tk = srtI (ks.map (·.2))) && onceB t (qs.map (atq t))
theorem eqv_ints {a b : List Int} : PyData.eqv (.list (a.map .int)) (.list (b.map .int)) = decide (a = b) := by rw [eqv_l, eqv_Ns]
def S_parts_show : DF := fun vs P => ∃ (h : Ho) (t : Tr) (b : Box) (k : Ki) (ks : List (Int × Int)) (qs : List Pt), vs = [.d (eHo h), .d (eTr t), .d (eBox b), .d (eKi k), .l (ks.map eK), .d (.tuple (qs.map ePt))] ∧ House h ∧ Tree h t ∧ Parts h t qs ∧ b.length = h.d ∧ ks.length ≤ 1000 ∧
  P (.d (.bool (pshowB h t (plBox b) k ks qs)))
theorem law_parts_show : ∀ vs P, S_parts_show vs P → defD 15 (b_parts_show S_worths_of S_plain_box S_there S_is_in S_is_out S_is_far S_has_each_once) vs P := by
  rintro vs P ⟨h, t, b, k, ks, qs, rfl, H, T, Q, hb, hks, hp⟩
  have hd4 := H.d4
  have hpl : (plBox b).length = h.d := by rw [plBox_len, hb]
  simp [b_parts_show, startD]
  refine ⟨h, rfl, by have := H.len; omega, ?_⟩
  refine ⟨b, rfl, by omega, ?_⟩
  simp
  refine ⟨by omega, ?_⟩
  refine lc_map _ (fun x => .int x.2) _ _ (fun x hx N acc h1 => ?_) ?_
  · simpa [eK] using h1
  simp
  refine ⟨by have := Q.1; omega, ?_⟩
  refine lc_map _ (fun q => eTr (atq t q)) _ _ (fun q hx N acc h1 => ?_) ?_
  · obtain ⟨a1, a2, a3, a4⟩ := Q.at T hx
    simp
    refine ⟨t, _, q, rfl, by omega, a2, ?_⟩
    simpa using h1
  simp
  have e0 : (qs.map fun q => eTr (atq t q)) = (qs.map (atq t)).map eTr := by rw [List.map_map]; rfl
  rw [e0, zipD_parts]
  refine for_indT _ (fun rest e => ∃ acc x y, e = [some (.d (eHo h)), some (.d (eTr t)), some (.d (eBox b)), some (.d (eKi k)), some (.l (ks.map eK)), some (.d (.tuple (qs.map ePt))), some (.dk (wDict h)), some (.d (ePl (plBox b))), some (.l (ks.map fun x => .int x.2)), some (.l (qs.map (eTr ∘ atq t))), some (.o (acc.map .int)), x, y, none, none] ∧
      (∀ q ∈ rest, q ∈ qs) ∧ runB h (plBox b) k ks t rest acc = runB h (plBox b) k ks t qs [] ∧ acc.length + rest.length ≤ 100) ?_ ?_ _ _ ⟨[], none, none, by simp, fun _ h => h, rfl, by simpa using Q.1⟩
  · rintro q rest e N ⟨acc, x, y, rfl, h1, h2, h3⟩ hN
    obtain ⟨a1, a2, a3, a4⟩ := Q.at T (h1 q (by simp))
    obtain ⟨ua, ub, hu⟩ := eTr_tup (atq t q)
    have hmem : ∀ q ∈ rest, q ∈ qs := fun q hq => h1 q (by simp [hq])
    simp at h3
    simp
    refine ⟨plBox b, atq t q, q, rfl, by rw [a3.bl]; omega, ?_⟩
    simp only [runB, turnB] at h2
    have rest2 : (isIn (atq t q).bs (plBox b) q && decide ((atq t q).ns.length = 1)) = false → S_is_out [.d (ePl (plBox b)), .d (eTr (atq t q)), .d (ePt q)] fun x => bT x fun c => if c = false then S_is_far [.dk (wDict h), .d (eTr (atq t q)), .d (ePt q), .d (eKi k), .l (ks.map eK)] fun x => bT x fun c => if c = false then P (.d (.bool false)) else
        N [some (.d (eHo h)), some (.d (eTr t)), some (.d (eBox b)), some (.d (eKi k)), some (.l (ks.map eK)), some (.d (.tuple (qs.map ePt))), some (.dk (wDict h)), some (.d (ePl (plBox b))), some (.l (ks.map fun x => .int x.2)), some (.l (qs.map (eTr ∘ atq t))), some (.o (acc.map .int)), some (.d (eTr (atq t q))), some (.d (ePt q)), none, none] else
        N [some (.d (eHo h)), some (.d (eTr t)), some (.d (eBox b)), some (.d (eKi k)), some (.l (ks.map eK)), some (.d (.tuple (qs.map ePt))), some (.dk (wDict h)), some (.d (ePl (plBox b))), some (.l (ks.map fun x => .int x.2)), some (.l (qs.map (eTr ∘ atq t))), some (.o (acc.map .int)), some (.d (eTr (atq t q))), some (.d (ePt q)), none, none] := by
      intro hc
      rw [hc] at h2
      refine ⟨plBox b, atq t q, q, rfl, by rw [hpl]; exact a1, by rw [a3.bl, hpl], ?_⟩
      cases ho : isOut (atq t q).bs (plBox b) q with
      | true =>
        simp
        rw [ho] at h2
        exact hN _ ⟨acc, _, _, rfl, hmem, by simpa using h2, by omega⟩
      | false =>
        simp
        refine ⟨wDict h, wofH h, atq t q, q, k, ks, rfl, a3.ne, by have := a3.nl; omega, wDict_of H a3, ?_⟩
        rw [ho] at h2
        cases hf : isFarB ks (keyU (wofH h) (atq t q) k) q with
        | true =>
          simp
          rw [hf] at h2
          exact hN _ ⟨acc, _, _, rfl, hmem, by simpa using h2, by omega⟩
        | false =>
          simp
          rw [hf] at h2
          simp at h2
          unfold pshowB at hp
          rw [← h2] at hp
          exact hp
    cases hi : isIn (atq t q).bs (plBox b) q with
    | true =>
      simp [hu]
      by_cases hl : (atq t q).ns.length = 1
      · have hne : (atq t q).ns ≠ [] := a3.ne
        simp [eNs, hl, hd_at hne]
        refine ⟨by omega, ?_⟩
        rw [hi] at h2
        simp [hl] at h2
        exact hN _ ⟨acc ++ [hd0 (atq t q).ns], some (.d (eTr (atq t q))), some (.d (ePt q)), by simp [hu, eNs], hmem, h2, by simp; omega⟩
      · have hl' : ¬ ((atq t q).ns.length : Int) = 1 := by omega
        simp [eNs, hl']
        have := rest2 (by simp [hl])
        rw [hu] at this
        simpa [eNs] using this
    | false =>
      simp
      simpa using rest2 (by simp [hi])
  · rintro e ⟨acc, x, y, rfl, h1, h2, h3⟩
    simp [runB] at h2
    unfold pshowB at hp
    rw [← h2] at hp
    simp at h3
    have e1 : (ks.map fun x => PyData.int x.2) = (ks.map (·.2)).map .int := by rw [List.map_map]; rfl
    rw [e1]
    have s1 := ints_sortable acc
    have s2 := ints_sortable (ks.map (·.2))
    simp only [st_ret, ap_andV, ap_op, ap_f, ap_cons, ap_var, ap_nil]
    simp only [List.getElem?_cons_succ, List.getElem?_cons_zero, Option.some.injEq, exists_eq_left', rd_o, rd_l, f_sorted, lst_l, ints_alike, s1, s2, srtI_map, true_and, ap_eqoo, depth_ints, ap_call, List.map_cons, List.map_nil, List.length_map, eqv_ints, bT_d]
    refine ⟨by omega, ints_depth _, by omega, ints_depth _, .inl trivial, ?_⟩
    simp only at hp
    by_cases hs : srtI acc = srtI (ks.map (·.2))
    · rw [decide_eq_true hs, Bool.true_and] at hp
      simp [hs]
      refine ⟨t, qs.map (atq t), by simp, by simpa using Q.1, fun u hu => ?_, hp⟩
      obtain ⟨q, hq, rfl⟩ := List.mem_map.mp hu
      exact (Q.at T hq).2.2.1.nl
    · rw [decide_eq_false hs, Bool.false_and] at hp
      simpa [hs] using hp
def risingB (ks : List (Int × Int)) : Bool := ((ks.zip ks.tail).map fun p => ltK p.1 p.2).all id
def anyFar (qs : List Pt) : Bool := qs.any fun q => match q.k with
  | .far => true
  | _ => false
def drawnB (h : Ho) (t : Tr) (pl : Pl) (k : Ki) (m : Int) (us : List Th) (qs : List Pt) : Bool :=
  if m < us.length then false else if risingB (us.map (keyT k)) = false then false else if pshowB h t pl k (us.map (keyT k)) qs = false then false else decide ((us.length : Int) = m) || !anyFar qs
theorem far_in (qs : List Pt) : ((qs.map fun q => (match q.k with | .inn => PyData.str "in" | .out _ _ => .str "out" | .far => .str "far")).any fun z => PyData.eqv z (.str "far")) = anyFar qs := by
  have n1 : (("in" : Str) = "far") = False := eq_false (by decide +kernel)
  have n2 : (("out" : Str) = "far") = False := eq_false (by decide +kernel)
  unfold anyFar
  rw [List.any_map]
  congr 1
  funext q
  obtain ⟨p, k⟩ := q
  cases k <;> simp [n1, n2]
theorem far_flat (qs : List Pt) : ((qs.map fun q => (match q.k with | .inn => PyData.str "in" | .out _ _ => .str "out" | .far => .str "far")).all flatD) = true := by
  rw [List.all_map, List.all_eq_true]
  intro q _
  obtain ⟨p, k⟩ := q
  cases k <;> rfl
theorem ePt_at1 (q : Pt) : ∃ r, ePt q = .tuple (ePath q.p :: (match q.k with | .inn => PyData.str "in" | .out _ _ => .str "out" | .far => .str "far") :: r) := by
  obtain ⟨p, k⟩ := q
  cases k <;> exact ⟨_, rfl⟩
def ePaper (us : List Th) (qs : List Pt) : PyData := .tuple [eNs (us.map (·.n)), .tuple (qs.map ePt)]
def S_shows_drawn : DF := fun vs P => ∃ (h : Ho) (t : Tr) (b : Box) (k : Ki) (m : Int) (us : List Th) (qs : List Pt), vs = [.d (eHo h), .d (eTr t), .d (eBox b), .d (eKi k), .d (.int m), .d (ePaper us qs)] ∧ House h ∧ Tree h t ∧ Parts h t qs ∧ b.length = h.d ∧ us.length ≤ 1000 ∧ (∀ u ∈ us, u ∈ h.ts) ∧
  P (.d (.bool (drawnB h t (plBox b) k m us qs)))
theorem law_shows_drawn : ∀ vs P, S_shows_drawn vs P → defD 14 (b_shows_drawn S_worths_of S_is_name_of S_keys_told S_parts_show) vs P := by
  rintro vs P ⟨h, t, b, k, m, us, qs, rfl, H, T, Q, hb, hus, hu, hp⟩
  have hd4 := H.d4
  have c1 : ∀ xs : List PyData, cut xs (some 1) none = xs.drop 1 := fun xs => cut_from (k := 1)
  simp [b_shows_drawn, startD, ePaper, isi_tup]
  simp [eNs, isi_tup]
  refine ⟨h, rfl, by have := H.len; omega, ?_⟩
  simp
  refine ⟨by omega, ?_⟩
  rw [show (PyData.int ∘ fun x : Th => x.n) = fun x : Th => PyData.int x.n from rfl]
  refine lc_map _ (fun _ => .bool true) _ _ (fun u hu' N acc h1 => ?_) ?_
  · simp
    refine ⟨wDict h, u.n, rfl, ?_⟩
    rw [wDict_at H (hu u hu')]
    simpa using h1
  refine f_all (ns := us.map fun _ => true) (by simp) ?_
  have e : (us.map fun _ => true).all id = true := List.all_eq_true.mpr fun x hx => by
    obtain ⟨_, _, rfl⟩ := List.mem_map.mp hx
    rfl
  rw [e]
  unfold drawnB at hp
  simp
  by_cases hm : m < us.length
  · rw [if_pos hm] at hp
    simpa [hm] using hp
  rw [if_neg hm] at hp
  simp [hm]
  refine ⟨h, k, us, by simp [eNs, Function.comp_def], by have := H.len; omega, H.nd, fun u hu' => ⟨hu u hu', by rw [H.pl u (hu u hu')]; omega⟩, hus, ?_⟩
  simp [c1]
  refine ⟨by omega, ?_⟩
  have ez : zipD (us.map (eK ∘ keyT k)) (us.map (eK ∘ keyT k)).tail = ((us.map (keyT k)).zip (us.map (keyT k)).tail).map fun p => PyData.tuple [eK p.1, eK p.2] := by
    rw [← List.map_map, ← List.map_tail, zipD_map]
  rw [ez]
  refine lc_map _ (fun p => .bool (ltK p.1 p.2)) _ _ (fun p hp' N acc h1 => ?_) ?_
  · simp [alike_K]
    exact ⟨Nat.le_trans depth_K (by omega), by simpa [ltK] using h1⟩
  refine f_all (ns := (((us.map (keyT k)).zip (us.map (keyT k)).tail).map fun p => ltK p.1 p.2)) (by simp) ?_
  change bT (.d (.bool (risingB (us.map (keyT k))))) _
  simp
  cases hr : risingB (us.map (keyT k)) with
  | false =>
    rw [hr] at hp
    simpa using hp
  | true =>
    rw [hr] at hp
    simp
    refine ⟨h, t, b, k, us.map (keyT k), qs, by simp, H, T, Q, hb, by simpa using hus, ?_⟩
    cases hs : pshowB h t (plBox b) k (us.map (keyT k)) qs with
    | false =>
      rw [hs] at hp
      simpa using hp
    | true =>
      rw [hs] at hp
      simp at hp
      simp
      by_cases he : (us.length : Int) = m
      · simpa [he] using hp
      · simp [he] at hp ⊢
        refine ⟨by have := Q.1; omega, ?_⟩
        refine lc_map _ (fun q => (match q.k with | .inn => PyData.str "in" | .out _ _ => .str "out" | .far => .str "far")) _ _ (fun q hq N acc h1 => ?_) ?_
        · obtain ⟨r, hr⟩ := ePt_at1 q
          simp [hr]
          exact h1
        · refine ⟨_, rfl, rfl, List.all_eq_true.mp (far_flat qs), ?_⟩
          rw [List.nil_append, far_in]
          exact hp
end Bx
/-! Mx6: the law's own looks -/
namespace Bx
open PySem
/-! ### plain -/
def loPl : Bd → Option Int := fun a => a.map fun l => l.1 + (if !l.2 then 1 else 0)
def hiPl : Bd → Option Int := fun a => a.map fun h => h.1 - (if !h.2 then 1 else 0)
def S__law_plain : DF := fun vs P => ∃ (b : Box), vs = [.d (eBox b)] ∧ b.length ≤ 1000 ∧ P (.d (ePl (plBox b)))
theorem law__law_plain : ∀ vs P, S__law_plain vs P → defD 6 b__law_plain vs P := by
  rintro vs P ⟨b, rfl, hz, hp⟩
  simp [b__law_plain, startD, eBox]
  refine for_indT _ (fun rest e => ∃ dn x y z w, e = [some (.d (.tuple (b.map eSp))), some (.o (dn.map (ePr ∘ plSp))), x, y, z, w] ∧ dn ++ rest = b ∧ dn.any (crossed ∘ plSp) = false ∧ dn.length + rest.length ≤ 1000) ?_ ?_ _ _ ⟨[], none, none, none, none, rfl, rfl, rfl, by simpa using hz⟩
  · rintro ⟨a, c⟩ rest e N ⟨dn, x, y, z, w, rfl, h1, h2, h3⟩ hN
    simp at h3
    have hb : b ≠ [] := by rw [← h1]; simp
    have hlen : 1 ≤ b.length := List.length_pos_iff.mpr hb
    have bad : crossed (plSp (a, c)) = true → P (.d (.tuple (List.replicate b.length (.tuple [.int 1, .int 0])))) := by
      intro hc
      unfold plBox plOf at hp
      rw [if_pos (by rw [← h1]; simp [hc])] at hp
      have e : (b.map plSp).map (fun _ => ((some 1, some 0) : Pr)) = List.replicate b.length (some 1, some 0) := by
        rw [List.map_map]
        exact List.map_const' ..
      rw [e] at hp
      simpa [ePl, ePr, eO] using hp
    have good : crossed (plSp (a, c)) = false → ∀ x y z w, N [some (.d (.tuple (b.map eSp))), some (.o (dn.map (ePr ∘ plSp) ++ [ePr (plSp (a, c))])), x, y, z, w] := fun hc x y z w =>
      hN _ ⟨dn ++ [(a, c)], x, y, z, w, by simp, by simpa using h1, by simpa [hc] using h2, by simp; omega⟩
    rcases a with _ | ⟨l, lb⟩ <;> rcases c with _ | ⟨g, gb⟩
    · simp [eSp, eBd]
      exact ⟨by omega, by simpa [plSp, ePr, eO] using good rfl _ _ _ _⟩
    · simp [eSp, eBd]
      exact ⟨by omega, by simpa [plSp, ePr, eO] using good rfl _ _ _ _⟩
    · simp [eSp, eBd]
      exact ⟨by omega, by simpa [plSp, ePr, eO] using good rfl _ _ _ _⟩
    · simp [eSp, eBd]
      by_cases hc : crossed (plSp (some (l, lb), some (g, gb))) = true
      · have hc' := hc
        simp [plSp, crossed] at hc'
        rw [if_pos hc']
        refine ⟨by omega, by omega, ?_⟩
        simpa using bad hc
      · have hc' := hc
        simp [plSp, crossed] at hc'
        rw [if_neg (by omega)]
        refine ⟨by omega, ?_⟩
        simpa [plSp, ePr, eO] using good (by simpa using hc) _ _ _ _
  · rintro e ⟨dn, x, y, z, w, rfl, h1, h2, h3⟩
    simp at h1
    subst h1
    unfold plBox plOf at hp
    rw [if_neg (by rw [List.any_map, h2]; simp)] at hp
    simpa [ePl] using hp
/-! ### beyond, inside -/
def S__law_beyond : DF := S_lies_out
theorem law__law_beyond : ∀ vs P, S__law_beyond vs P → defD 5 b__law_beyond vs P := by
  rintro vs P ⟨bs, pl, i, s, rfl, hb, hl, hp⟩
  have h1 := at_enc (f := ePr) hl
  have h2 : L2.atI (bs.map (ePr ∘ sb)) (i : Int) = some (ePr (sb bs[i])) := by
    rw [at_map, at_nat hb]
    rfl
  have h3 : pl[i]? = some pl[i] := List.getElem?_eq_getElem hl
  have h4 : bs[i]? = some bs[i] := List.getElem?_eq_getElem hb
  unfold liesOut at hp
  rw [h3, h4] at hp
  simp only at hp
  generalize pl[i] = q at *
  generalize bs[i] = b at *
  obtain ⟨q1, q2⟩ := q
  have e1 : ePr (q1, q2) = .tuple [eO q1, eO q2] := rfl
  have d1 : (ePr (q1, q2)).depth ≤ 60 := Nat.le_trans depth_Pr (by omega)
  have e2 : PyData.eqv (eO q1) (.int 1) = decide (q1 = some 1) := eqv_O (b := some 1)
  have e3 : PyData.eqv (eO q2) (.int 0) = decide (q2 = some 0) := eqv_O (b := some 0)
  rw [e1] at h1 d1
  cases s with
  | false =>
    simp [b__law_beyond, startD, eBs, ePl, h1, h2, d1, e2, e3, eStep]
    by_cases hq : q1 = some 1 ∧ q2 = some 0
    · rw [if_pos (by rw [hq.1, hq.2])] at hp
      simpa [hq] using hp
    · rw [if_neg (by simpa using hq)] at hp
      rw [if_neg hq]
      cases q1 with
      | none => simpa [eStep, eO, sb, ePr] using hp
      | some l => simpa [eStep, eO, sb, ePr] using hp
  | true =>
    simp [b__law_beyond, startD, eBs, ePl, h1, h2, d1, e2, e3, eStep]
    by_cases hq : q1 = some 1 ∧ q2 = some 0
    · rw [if_pos (by rw [hq.1, hq.2])] at hp
      simpa [hq] using hp
    · rw [if_neg (by simpa using hq)] at hp
      rw [if_neg hq]
      cases q2 with
      | none => simpa [eStep, eO, sb, ePr] using hp
      | some l => simpa [eStep, eO, sb, ePr] using hp
def inP (b : Int × Int) (q : Pr) : Bool := (match q.1 with | none => true | some l => decide (l ≤ b.1)) && (match q.2 with | none => true | some g => decide (b.2 ≤ g))
def inPl (bs : Bs) (pl : Pl) : Bool := (List.zipWith inP bs pl).all id
theorem cm_in (b : Int × Int) (q : Pr) : inP b q = decide (cm (sb b, q) = sb b) := by
  obtain ⟨lo, hi⟩ := b
  obtain ⟨q1, q2⟩ := q
  rcases q1 with _ | l <;> rcases q2 with _ | g <;> simp [inP, cm, sb, gtr, lsr]
  · by_cases h : g < hi
    · simp [h]
      omega
    · simp [h]
      omega
  · by_cases h : lo < l
    · simp [h]
      omega
    · simp [h]
      omega
  · have a1 : decide (l ≤ lo) = (!decide (lo < l) || decide (l = lo)) := by
      by_cases h : lo < l
      · rw [decide_eq_false (show ¬ l ≤ lo by omega), decide_eq_true h, decide_eq_false (show ¬ l = lo by omega)]
        rfl
      · rw [decide_eq_true (show l ≤ lo by omega), decide_eq_false h]
        rfl
    have a2 : decide (hi ≤ g) = (!decide (g < hi) || decide (g = hi)) := by
      by_cases h : g < hi
      · rw [decide_eq_false (show ¬ hi ≤ g by omega), decide_eq_true h, decide_eq_false (show ¬ g = hi by omega)]
        rfl
      · rw [decide_eq_true (show hi ≤ g by omega), decide_eq_false h]
        rfl
    rw [a1, a2]
theorem cm_cross {b : Int × Int} {q : Pr} (h : inP b q = true) (ho : b.1 ≤ b.2) : crossed (cm (sb b, q)) = false := by
  rw [cm_in] at h
  rw [of_decide_eq_true h]
  simp [sb, crossed]
  omega
theorem liesW_in : ∀ (bs : Bs) (pl : Pl), bs.length = pl.length → bs ≠ [] → (∀ b ∈ bs, b.1 ≤ b.2) → liesW (bs.map sb) pl = inPl bs pl := by
  intro bs pl hl hne ho
  unfold liesW
  rw [comm_zip]
  have ez : ((bs.map sb).zip pl).map cm = (bs.zip pl).map fun p => cm (sb p.1, p.2) := by
    rw [List.zip_map_left, List.map_map]
    rfl
  rw [ez]
  have all_iff : inPl bs pl = true ↔ ∀ p ∈ bs.zip pl, inP p.1 p.2 = true := by
    unfold inPl
    rw [← List.map_uncurry_zip_eq_zipWith, List.all_map, List.all_eq_true]
    rfl
  have map_eq : ((bs.zip pl).map fun p => cm (sb p.1, p.2)) = bs.map sb ↔ ∀ p ∈ bs.zip pl, inP p.1 p.2 = true := by
    have e : bs.map sb = (bs.zip pl).map fun p => sb p.1 := by
      rw [show (fun p : (Int × Int) × Pr => sb p.1) = sb ∘ Prod.fst from rfl, ← List.map_map, List.map_fst_zip (by omega)]
    rw [e]
    constructor
    · intro h p hp
      have := List.map_inj_left.mp h p hp
      rw [cm_in]
      exact decide_eq_true this
    · intro h
      apply List.map_inj_left.mpr
      intro p hp
      have := h p hp
      rw [cm_in] at this
      exact of_decide_eq_true this
  by_cases hi : inPl bs pl = true
  · have ha := all_iff.mp hi
    rw [hi]
    apply decide_eq_true
    unfold plOf
    rw [if_neg]
    · exact map_eq.mpr ha
    · rw [List.any_map]
      intro hx
      obtain ⟨p, hp, hc⟩ := List.any_eq_true.mp hx
      have := cm_cross (ha p hp) (ho p.1 (List.of_mem_zip hp).1)
      rw [Function.comp_apply, this] at hc
      cases hc
  · have hi' : inPl bs pl = false := by simpa using hi
    rw [hi']
    apply decide_eq_false
    intro he
    unfold plOf at he
    split at he
    · cases bs with
      | nil => exact hne rfl
      | cons b r =>
        cases pl with
        | nil => simp at hl
        | cons q s =>
          simp at he
          have h1 := he.1
          have := ho b (by simp)
          unfold sb at h1
          simp at h1
          omega
    · exact hi (all_iff.mpr (map_eq.mp he))
theorem in_empty {bs : Bs} {pl : Pl} (hne : bs ≠ []) (ho : ∀ b ∈ bs, b.1 ≤ b.2) (h : pl.head? = some (some 1, some 0)) : inPl bs pl = false := by
  cases bs with
  | nil => exact absurd rfl hne
  | cons b r =>
    cases pl with
    | nil => cases h
    | cons q s =>
      simp at h
      subst h
      have := ho b (by simp)
      simp [inPl, inP]
      intro h1 h2
      omega
def S__law_inside : DF := fun vs P => ∃ (v : Val) (bs : Bs) (pl : Pl), vs = [v, .d (ePl pl)] ∧ (v = .d (eBs bs) ∨ v = .l (bs.map eB)) ∧ bs ≠ [] ∧ bs.length = pl.length ∧ (∀ b ∈ bs, b.1 ≤ b.2) ∧ P (.d (.bool (liesW (bs.map sb) pl)))
theorem law__law_inside : ∀ vs P, S__law_inside vs P → defD 6 b__law_inside vs P := by
  rintro vs P ⟨v, bs, pl, rfl, hv, hne, hl, ho, hp⟩
  rw [liesW_in bs pl hl hne ho] at hp
  have hf : v.fix = some (bs.map eB) := by
    rcases hv with rfl | rfl
    · rw [eBs_map]
      rfl
    · rfl
  obtain ⟨q, pr, hpl⟩ : ∃ q r, pl = q :: r := by
    cases pl with
    | nil =>
      simp at hl
      exact absurd hl hne
    | cons q r => exact ⟨q, r, rfl⟩
  have e0 : PyData.tuple [PyData.int 1, PyData.int 0] = ePr (some 1, some 0) := rfl
  have d1 : (ePr q).depth ≤ 60 := Nat.le_trans depth_Pr (by omega)
  have h0 : L2.atI (pl.map ePr) 0 = some (ePr q) := by rw [hpl]; simp
  simp [b__law_inside, startD, hf, ePl, h0, d1]
  rw [e0, eqv_Pr]
  by_cases hq : q = (some 1, some 0)
  · rw [in_empty hne ho (by rw [hpl, hq]; rfl)] at hp
    simpa [hq] using hp
  · simp [hq]
    rw [zipD_map]
    refine for_indT _ (fun rest e => ∃ (x y z w : Option Val), e = [some v, some (.d (.tuple (pl.map ePr))), x, y, z, w] ∧ (rest.all fun p => inP p.1 p.2) = inPl bs pl) ?_ ?_ _ _ ⟨none, none, none, none, rfl, ?_⟩
    · rintro ⟨⟨lo, hi⟩, ⟨q1, q2⟩⟩ rest e N ⟨x, y, z, w, rfl, h1⟩ hN
      rw [List.all_cons] at h1
      rcases q1 with _ | l <;> rcases q2 with _ | g
      · simp [eB, sb, ePr, eO]
        exact hN _ ⟨_, _, _, _, rfl, by simpa [inP] using h1⟩
      · simp [eB, sb, ePr, eO]
        by_cases hc : g < hi
        · rw [if_pos hc]
          simp [inP, show ¬ hi ≤ g by omega] at h1
          rw [h1] at hp
          exact hp
        · rw [if_neg hc]
          exact hN _ ⟨_, _, _, _, rfl, by simpa [inP, show hi ≤ g by omega] using h1⟩
      · simp [eB, sb, ePr, eO]
        by_cases hc : lo < l
        · rw [if_pos hc]
          simp [inP, show ¬ l ≤ lo by omega] at h1
          rw [h1] at hp
          exact hp
        · rw [if_neg hc]
          exact hN _ ⟨_, _, _, _, rfl, by simpa [inP, show l ≤ lo by omega] using h1⟩
      · simp [eB, sb, ePr, eO]
        by_cases hc : lo < l
        · rw [if_pos hc]
          simp [inP, show ¬ l ≤ lo by omega] at h1
          rw [h1] at hp
          exact hp
        · rw [if_neg hc]
          by_cases hc2 : g < hi
          · rw [if_pos hc2]
            simp [inP, show ¬ hi ≤ g by omega] at h1
            rw [h1] at hp
            exact hp
          · rw [if_neg hc2]
            exact hN _ ⟨_, _, _, _, rfl, by simpa [inP, show l ≤ lo by omega, show hi ≤ g by omega] using h1⟩
    · rintro e ⟨x, y, z, w, rfl, h1⟩
      simp at h1
      rw [h1] at hp
      simpa using hp
    · unfold inPl
      rw [← List.map_uncurry_zip_eq_zipWith, List.all_map]
      rfl
end Bx
/-! Mx7: the law's own looks, on -/
namespace Bx
open PySem
theorem lo_fl (a : Bd) (n : Int) : (match (a.map fun l => l.1 + (if !l.2 then 1 else 0)) with | none => true | some l => decide (l ≤ n)) = fLow a n := by
  rcases a with _ | ⟨l, b⟩
  · rfl
  · cases b
    · simp [fLow]
      omega
    · simp [fLow]
      rw [Bool.eq_iff_iff]
      simp
      omega
theorem hi_fh (a : Bd) (n : Int) : (match (a.map fun h => h.1 - (if !h.2 then 1 else 0)) with | none => true | some l => decide (n ≤ l)) = fHigh a n := by
  rcases a with _ | ⟨l, b⟩
  · rfl
  · cases b
    · simp [fHigh]
      omega
    · simp [fHigh]
      rw [Bool.eq_iff_iff]
      simp
      omega
theorem inP_fSp (s : Spn) (n : Int) : inP (n, n) (plSp s) = fSp s n := by
  unfold inP fSp
  rw [← lo_fl s.1, ← hi_fh s.2]
  rfl
theorem cross_fSp {s : Spn} {n : Int} (h : crossed (plSp s) = true) : fSp s n = false := by
  rw [← inP_fSp]
  unfold inP
  unfold crossed at h
  split at h
  · rename_i a b e
    rw [e]
    simp at h ⊢
    omega
  · cases h
theorem fits_in : ∀ (b : Box) (p : List Int), b.length = p.length → p ≠ [] → inPl (p.map fun n => (n, n)) (plBox b) = fitsB b p := by
  intro b p hl hne
  have zip1 : ∀ (b : Box) (p : List Int), inPl (p.map fun n => (n, n)) (b.map plSp) = fitsB b p := by
    intro b
    induction b with
    | nil => intro p; simp [inPl, fitsB]
    | cons s b ih =>
      intro p
      cases p with
      | nil => rfl
      | cons n p =>
        have := ih p
        simp only [inPl, fitsB] at this
        simp only [inPl, fitsB, List.map_cons, List.zipWith_cons_cons, List.all_cons, id, inP_fSp]
        rw [← this]
  unfold plBox plOf
  by_cases hc : (b.map plSp).any crossed = true
  · rw [if_pos hc]
    have h1 : inPl (p.map fun n => (n, n)) ((b.map plSp).map fun _ => (some 1, some 0)) = false := by
      refine in_empty (by simpa using hne) (fun x hx => ?_) ?_
      · obtain ⟨n, _, rfl⟩ := List.mem_map.mp hx
        exact Int.le_refl _
      · cases b with
        | nil =>
          simp at hl
          exact absurd (List.eq_nil_of_length_eq_zero hl.symm) hne
        | cons s r => rfl
    rw [h1]
    have h2 : ∀ (b : Box) (p : List Int), b.length = p.length → (b.map plSp).any crossed = true → fitsB b p = false := by
      intro b
      induction b with
      | nil => intro p _ h; simp at h
      | cons s b ih =>
        intro p hl h
        cases p with
        | nil => simp at hl
        | cons n p =>
          simp only [List.map_cons, List.any_cons, Bool.or_eq_true] at h
          simp only [fitsB, List.zipWith_cons_cons, List.all_cons, id]
          rcases h with h | h
          · rw [cross_fSp h]
            rfl
          · have := ih p (by simpa using hl) h
            simp only [fitsB] at this
            rw [this, Bool.and_false]
    exact (h2 b p hl hc).symm
  · rw [if_neg hc]
    exact zip1 b p
def S__law_fits : DF := fun vs P => ∃ (b : Box) (p : List Int), vs = [.d (ePl (plBox b)), .d (eNs p)] ∧ b.length = p.length ∧ p ≠ [] ∧ p.length ≤ 1000 ∧ P (.d (.bool (fitsB b p)))
theorem law__law_fits : ∀ vs P, S__law_fits vs P → defD 3 (b__law_fits S__law_inside) vs P := by
  rintro vs P ⟨b, p, rfl, hl, hne, hz, hp⟩
  have hod : ∀ x ∈ p.map (fun n => (n, n)), x.1 ≤ x.2 := fun x hx => by
    obtain ⟨n, _, rfl⟩ := List.mem_map.mp hx
    exact Int.le_refl _
  simp [b__law_fits, startD]
  simp [eNs]
  refine ⟨by omega, ?_⟩
  refine lc_map _ (fun n => eB (n, n)) _ _ (fun n hn N acc h1 => ?_) ?_
  · simpa [eB, ePr, sb, eO] using h1
  · simp
    refine ⟨_, p.map fun n => (n, n), plBox b, rfl, .inr (by simp), by simpa using hne, by rw [List.length_map, plBox_len, hl], hod, ?_⟩
    rw [liesW_in _ _ (by rw [List.length_map, plBox_len, hl]) (by simpa using hne) hod, fits_in b p hl hne]
    exact hp
def S__law_steps : DF := fun vs P => ∃ (v : Val) (bs : Bs) (p : List Int), vs = [v, .d (eNs p)] ∧ (v = .d (eBs bs) ∨ v = .l (bs.map eB)) ∧ bs.length ≤ 1000 ∧ P (.d (.int (stepsT bs p)))
theorem law__law_steps : ∀ vs P, S__law_steps vs P → defD 5 b__law_steps vs P := by
  rintro vs P ⟨v, bs, p, rfl, hv, hz, hp⟩
  have key : ∀ (w : Val), w.rd = v.rd → v.rd.zq = some (bs.map eB) → P (.d (.int (stepsT bs p))) → True := fun _ _ _ _ => trivial
  have hf : v.rd.zq = some (bs.map eB) := by
    rcases hv with rfl | rfl
    · rw [eBs_map]
      rfl
    · rfl
  simp [b__law_steps, startD, hf]
  simp [eNs]
  refine ⟨by omega, ?_⟩
  rw [zipD_map]
  refine lc_map _ (fun x => .int (stp x.1 x.2)) _ _ (fun x hx N acc h1 => ?_) ?_
  · obtain ⟨⟨lo, hi⟩, n⟩ := x
    simp [eB, sb, ePr, eO]
    exact h1
  · refine f_sum (ns := (bs.zip p).map fun x => stp x.1 x.2) (by simp) ?_
    unfold stepsT at hp
    rw [← List.map_uncurry_zip_eq_zipWith] at hp
    exact hp
theorem bs_le {h : Ho} (H : House h) {u : Tr} (U : NodeOk h u) : u.bs.length ≤ 4 := by
  rw [U.bl]
  exact H.d4
def S__law_key : DF := fun vs P => ∃ (h : Ho) (u : Tr) (k : Ki), vs = [.d (eHo h), .d (eTr u), .d (eKi k)] ∧ House h ∧ NodeOk h u ∧ P (.d (eK (keyU (wofH h) u k)))
theorem mn_mx {ns ms : List Int} {m : Int} (h1 : m ∈ ms) (h2 : ∀ y ∈ ms, m ≤ y) (e1 : ∀ y ∈ ms, (0 - y) ∈ ns) (e2 : ∀ y ∈ ns, (0 - y) ∈ ms) : m = 0 - mxL ns := by
  have : 0 - m = mxL ns := mxL_is ns (0 - m) (e1 m h1) fun y hy => by
    have := h2 _ (e2 y hy)
    omega
  omega
theorem law__law_key : ∀ vs P, S__law_key vs P → defD 6 (b__law_key S__law_steps) vs P := by
  rintro vs P ⟨h, u, k, rfl, H, U, hp⟩
  obtain ⟨ua, ub, hu⟩ := eTr_tup u
  have n1 : (("best" : Str) = "near") = False := eq_false (by decide +kernel)
  simp [b__law_key, startD, hu]
  cases k with
  | near p =>
    simp [eKi]
    refine ⟨_, u.bs, p, rfl, .inl rfl, by have := bs_le H U; omega, ?_⟩
    simp [eNs, hd_at U.ne]
    exact hp
  | best =>
    simp [eKi, n1, eHo]
    refine ⟨by have := H.len; omega, ?_⟩
    have hmem : ∀ x : Th, ((u.ns.map PyData.int).any fun z => PyData.eqv z (.int x.n)) = decide (x.n ∈ u.ns) := fun x => by
      rw [List.any_map, Bool.eq_iff_iff]
      simp
    have hflat : ((u.ns.map PyData.int).all flatD) = true := by
      rw [List.all_map, List.all_eq_true]
      intro _ _
      rfl
    refine lc_filter _ (fun x : Th => decide (x.n ∈ u.ns)) (fun x => .int (0 - x.w)) _ _ (fun x hx N acc h1 h2 => ?_) ?_
    · simp [eTh]
      refine ⟨_, rfl, rfl, List.all_eq_true.mp hflat, ?_⟩
      by_cases hc : x.n ∈ u.ns
      · rw [if_pos ⟨.int x.n, List.mem_map_of_mem hc, by simp⟩]
        simpa using h1 (decide_eq_true hc)
      · rw [if_neg]
        · exact h2 (decide_eq_false hc)
        · rintro ⟨z, hz, e⟩
          obtain ⟨n, hn, rfl⟩ := List.mem_map.mp hz
          simp at e
          subst e
          exact hc hn
    · refine ⟨_, (h.ts.filter fun x => decide (x.n ∈ u.ns)).map fun x => 0 - x.w, rfl, by simp, ?_, fun m h1 h2 => ?_⟩
      · rw [List.length_map]
        obtain ⟨m, hm⟩ := List.exists_mem_of_ne_nil _ U.ne
        obtain ⟨x, hx, e, _⟩ := U.nm m hm
        exact List.length_pos_of_mem (List.mem_filter.mpr ⟨hx, decide_eq_true (by rw [e]; exact hm)⟩)
      · have em : m = 0 - mxL (u.ns.map (wofH h)) := by
          refine mn_mx h1 h2 (fun y hy => ?_) fun y hy => ?_
          · obtain ⟨x, hx, rfl⟩ := List.mem_map.mp hy
            obtain ⟨hx1, hx2⟩ := List.mem_filter.mp hx
            refine List.mem_map.mpr ⟨x.n, of_decide_eq_true hx2, ?_⟩
            rw [wofH_at H hx1]
            omega
          · obtain ⟨n, hn, rfl⟩ := List.mem_map.mp hy
            obtain ⟨x, hx, e, _⟩ := U.nm n hn
            subst e
            refine List.mem_map.mpr ⟨x, List.mem_filter.mpr ⟨hx, decide_eq_true hn⟩, ?_⟩
            rw [wofH_at H hx]
        subst em
        simp [eNs, hd_at U.ne]
        simpa [keyU, eK] using hp
def S__law_at : DF := S_tree_at
theorem law__law_at : ∀ vs P, S__law_at vs P → defD 3 b__law_at vs P := by
  rintro vs P ⟨t, u, p, rfl, hu, hp⟩
  simp [b__law_at, startD, ePath]
  refine for_indT _ (fun rest e => ∃ t x, e = [some (.d (eTr t)), some (.d (ePath p)), x] ∧ t.at rest = some u) ?_ ?_ _ _ ⟨t, none, rfl, hu⟩
  · rintro b rest e N ⟨t, x, rfl, h1⟩ hN
    cases t with
    | leaf n bs => simp [Tr.at] at h1
    | node n bs l r =>
      cases b with
      | false =>
        simp [eStep, eTr]
        exact hN _ ⟨l, _, rfl, by simpa [Tr.at] using h1⟩
      | true =>
        simp [eStep, eTr]
        exact hN _ ⟨r, _, rfl, by simpa [Tr.at] using h1⟩
  · rintro e ⟨t, x, rfl, h1⟩
    simp [Tr.at] at h1
    subst h1
    simpa using hp
def S__law_whole : DF := S_is_count
theorem law__law_whole : ∀ vs P, S__law_whole vs P → defD 2 b__law_whole vs P := law_is_count
def S__law_there : DF := S_there
theorem law__law_there : ∀ vs P, S__law_there vs P → defD 3 (b__law_there S__law_whole S__law_at) vs P := by
  rintro vs P ⟨t, u, ⟨p, k⟩, rfl, hz, hu, hp⟩
  have go : ∀ K : Val → Prop, K (.d (.bool true)) → lcLoop (.n 2) dYes (dCall S__law_whole (dCons (dVar 2) (dCons (dC (.int 2)) dNil))) [some (.d (eTr t)), some (.d (ePt ⟨p, k⟩)), none] (fun x => fAll [x] K) (p.map eStep) [] := fun K hK => by
    refine lc_map _ (fun _ => .bool true) _ _ (fun x hx N acc h1 => ?_) ?_
    · simp [eStep]
      exact ⟨_, _, rfl, by rw [step_lt]; simpa using h1⟩
    · have e : (p.map fun _ => true).all id = true := List.all_eq_true.mpr fun x hx => by
        obtain ⟨_, _, rfl⟩ := List.mem_map.mp hx
        rfl
      exact f_all (ns := p.map fun _ => true) (by simp) (by rw [e]; exact hK)
  have hzz : p.length ≤ 1000 := hz
  cases k with
  | inn =>
    have := go (fun x => bT x fun c => if c = true then S__law_at [.d (eTr t), .d (ePath p)] P else P (.d .none)) (by simp; exact ⟨_, _, _, rfl, hu, hp⟩)
    simp [b__law_there, startD, ePt, isi_tup, isi_str, flatD, isi_path]
    simp [ePath]
    refine ⟨by omega, ?_⟩
    simpa [ePt, ePath] using this
  | out i s =>
    have := go (fun x => bT x fun c => if c = true then S__law_at [.d (eTr t), .d (ePath p)] P else P (.d .none)) (by simp; exact ⟨_, _, _, rfl, hu, hp⟩)
    simp [b__law_there, startD, ePt, isi_tup, isi_str, flatD, isi_path]
    simp [ePath]
    refine ⟨by omega, ?_⟩
    simpa [ePt, ePath] using this
  | far =>
    have := go (fun x => bT x fun c => if c = true then S__law_at [.d (eTr t), .d (ePath p)] P else P (.d .none)) (by simp; exact ⟨_, _, _, rfl, hu, hp⟩)
    simp [b__law_there, startD, ePt, isi_tup, isi_str, flatD, isi_path]
    simp [ePath]
    refine ⟨by omega, ?_⟩
    simpa [ePt, ePath] using this
def S__law_out_right : DF := fun vs P => ∃ (pl : Pl) (u : Tr) (q : Pt), vs = [.d (eTr u), .d (ePl pl), .d (ePt q)] ∧ okPt pl.length q ∧ u.bs.length = pl.length ∧ P (.d (.bool (isOut u.bs pl q)))
theorem law__law_out_right : ∀ vs P, S__law_out_right vs P → defD 3 (b__law_out_right S__law_whole S__law_beyond) vs P := by
  rintro vs P ⟨pl, u, ⟨p, k⟩, rfl, hk, hl, hp⟩
  obtain ⟨ta, tb, ht⟩ := eTr_tup u
  have n1 : (("in" : Str) = "out") = False := eq_false (by decide +kernel)
  cases k with
  | inn => simpa [b__law_out_right, startD, ePt, isOut] using hp
  | far => simpa [b__law_out_right, startD, ePt, isOut] using hp
  | out i s =>
    have hi : i < pl.length := hk
    simp [b__law_out_right, startD, ePt, ht]
    simp [ePl]
    refine ⟨_, _, rfl, ?_⟩
    simp [hi]
    refine ⟨_, _, rfl, ?_⟩
    rw [step_lt]
    simp
    exact ⟨_, _, _, _, rfl, by omega, hi, hp⟩
end Bx
/-! Mx8: covers, keys, papers by the law -/
namespace Bx
open PySem
theorem ns_at0 (u : Tr) : ∃ r, eTr u = .tuple (eNs u.ns :: r) := by
  obtain ⟨a, b, h⟩ := eTr_tup u
  exact ⟨_, h⟩
def S__law_is_cover : DF := fun vs P => ∃ (h : Ho) (t : Tr) (pl : Pl) (qs : List Pt), vs = [.d (eTr t), .d (ePl pl), .d (.tuple (qs.map ePt))] ∧ House h ∧ Tree h t ∧ Parts h t qs ∧ pl.length = h.d ∧ P (.d (.bool (showsB t pl qs)))
theorem law__law_is_cover : ∀ vs P, S__law_is_cover vs P → defD 6 (b__law_is_cover S__law_there S__law_out_right S__law_inside) vs P := by
  rintro vs P ⟨h, t, pl, qs, rfl, H, T, Q, hl, hp⟩
  have n1 : (("far" : Str) = "in") = False := eq_false (by decide +kernel)
  obtain ⟨ta, tb, ht⟩ := eTr_tup t
  have hd1 := H.d1
  have hd4 := H.d4
  simp [b__law_is_cover, startD, isi_tup]
  refine for_indT _ (fun rest e => ∃ (acc : List Int) (x y : Option Val), e = [some (.d (eTr t)), some (.d (ePl pl)), some (.d (.tuple (qs.map ePt))), some (.o (acc.map .int)), x, y] ∧ (∀ q ∈ rest, q ∈ qs) ∧ acc.length + rest.length * 100 ≤ 10000 ∧
    ((rest.all fun q => isIn (atq t q).bs pl q || isOut (atq t q).bs pl q) && decide (srtI (acc ++ rest.flatMap fun q => (atq t q).ns) = t.ns)) = showsB t pl qs) ?_ ?_ _ _ ⟨[], none, none, rfl, fun _ h => h, by have := Q.1; simp; omega, ?_⟩
  · rintro q rest e N ⟨acc, x, y, rfl, h1, h2, h3⟩ hN
    obtain ⟨a1, a2, a3, a4⟩ := Q.at T (h1 q (by simp))
    obtain ⟨ua, ub, hu⟩ := eTr_tup (atq t q)
    have hmem : ∀ q ∈ rest, q ∈ qs := fun q hq => h1 q (by simp [hq])
    have hnl := a3.nl
    have hbl := a3.bl
    simp at h2
    simp
    refine ⟨t, _, q, rfl, by omega, a2, ?_⟩
    simp
    refine ⟨pl, atq t q, q, rfl, by rw [hl]; exact a1, by rw [hbl, hl], ?_⟩
    have okN : (isIn (atq t q).bs pl q || isOut (atq t q).bs pl q) = true → N [some (.d (eTr t)), some (.d (ePl pl)), some (.d (.tuple (qs.map ePt))), some (.o (acc.map .int ++ (atq t q).ns.map .int)), some (.d (ePt q)), some (.d (eTr (atq t q)))] := fun hc =>
      hN _ ⟨acc ++ (atq t q).ns, _, _, by simp; exact ⟨rfl, rfl⟩, hmem, by simp; omega, by rw [← h3]; simp [hc]⟩
    have noP : (isIn (atq t q).bs pl q || isOut (atq t q).bs pl q) = false → P (.d (.bool false)) := fun hc => by
      rw [List.all_cons, hc, Bool.false_and, Bool.false_and] at h3
      rw [← h3] at hp
      exact hp
    cases ho : isOut (atq t q).bs pl q with
    | true =>
      simp [hu, eNs]
      have := okN (by simp [ho])
      rw [hu] at this
      exact ⟨by omega, by omega, by simpa [eNs] using this⟩
    | false =>
      obtain ⟨p, k⟩ := q
      cases k with
      | inn =>
        simp [ePt, hu]
        refine ⟨_, (atq t ⟨p, .inn⟩).bs, pl, rfl, .inl rfl, fun z => ?_, by rw [hbl, hl], a3.or, ?_⟩
        · rw [z] at hbl
          simp at hbl
          omega
        · cases hi : liesW ((atq t ⟨p, .inn⟩).bs.map sb) pl with
          | true =>
            simp [eNs]
            have := okN (by simp [isIn, hi])
            rw [hu] at this
            exact ⟨by omega, by omega, by simpa [ePt, eNs] using this⟩
          | false =>
            simp
            exact noP (by simp [isIn, isOut, hi])
      | out i s =>
        simp [ePt]
        exact noP (by simp [isIn, ho])
      | far =>
        simp [ePt, n1]
        exact noP (by simp [isIn, isOut])
  · rintro e ⟨acc, x, y, rfl, h1, h2, h3⟩
    simp at h3
    simp at h2
    have hs := ints_sortable acc
    simp [ht, eNs, ints_alike, hs, srtI_map]
    refine ⟨by omega, .inl depth_ints, ?_⟩
    rw [eqv_Ns, h3]
    exact hp
  · unfold showsB onceB
    simp [List.flatMap_map]
theorem nd_inj {h : Ho} (H : House h) {x y : Th} (hx : x ∈ h.ts) (hy : y ∈ h.ts) (e : x.n = y.n) : x = y := by
  have go : ∀ (l : List Th), (l.map (·.n)).Nodup → x ∈ l → y ∈ l → x = y := by
    intro l
    induction l with
    | nil => intro _ h; simp at h
    | cons z l ih =>
      intro nd h1 h2
      rw [List.map_cons, List.nodup_cons] at nd
      rcases List.mem_cons.mp h1 with e1 | g1 <;> rcases List.mem_cons.mp h2 with e2 | g2
      · rw [e1, e2]
      · exact absurd (by rw [← e1, e]; exact List.mem_map_of_mem g2) nd.1
      · exact absurd (by rw [← e2, ← e]; exact List.mem_map_of_mem g1) nd.1
      · exact ih nd.2 g1 g2
  exact go _ H.nd hx hy
def S__law_thing_key : DF := fun vs P => ∃ (h : Ho) (k : Ki) (u : Th), vs = [.d (eHo h), .d (eKi k), .d (.int u.n)] ∧ House h ∧ u ∈ h.ts ∧ P (.d (eK (keyT k u)))
theorem law__law_thing_key : ∀ vs P, S__law_thing_key vs P → defD 7 (b__law_thing_key S__law_steps) vs P := by
  rintro vs P ⟨h, k, u, rfl, H, hu, hp⟩
  have n1 : (("near" : Str) = "best") = False := eq_false (by decide +kernel)
  have hd4 := H.d4
  simp [b__law_thing_key, startD, eHo]
  refine for_indT _ (fun rest e => ∃ x y z, e = [some (.d (.tuple [.int h.d, .tuple (h.ts.map eTh)])), some (.d (eKi k)), some (.d (.int u.n)), x, y, z, none] ∧ (∀ x ∈ rest, x ∈ h.ts) ∧ u ∈ rest) ?_ ?_ _ _ ⟨none, none, none, rfl, fun _ h => h, hu⟩
  · rintro v rest e N ⟨x, y, z, rfl, h1, h2⟩ hN
    simp [eTh]
    by_cases hv : v.n = u.n
    · have := nd_inj H (h1 v (by simp)) hu hv
      subst this
      simp
      cases k with
      | best => simpa [eKi, keyT, farT, eK] using hp
      | near p =>
        have hpl := H.pl v hu
        simp [eKi, n1]
        simp [eNs]
        refine ⟨by omega, ?_⟩
        refine lc_map _ (fun n => eB (n, n)) _ _ (fun n hn N acc h1 => ?_) ?_
        · simpa [eB, ePr, sb, eO] using h1
        · simp
          refine ⟨_, v.p.map fun n => (n, n), p, rfl, .inr (by simp), by simp; omega, ?_⟩
          simpa [keyT, farT, eK] using hp
    · simp [hv]
      refine hN _ ⟨_, _, _, rfl, fun x hx => h1 x (by simp [hx]), ?_⟩
      rcases List.mem_cons.mp h2 with e | h2
      · rw [e] at hv
        exact absurd rfl hv
      · exact h2
  · rintro e ⟨x, y, z, rfl, h1, h2⟩
    simp at h2
def S__law_show : DF := fun vs P => ∃ (h : Ho) (t : Tr) (pl : Pl) (k : Ki) (ks : List (Int × Int)) (qs : List Pt), vs = [.d (eHo h), .d (eTr t), .d (ePl pl), .d (eKi k), .l (ks.map eK), .d (.tuple (qs.map ePt))] ∧ House h ∧ Tree h t ∧ Parts h t qs ∧ pl.length = h.d ∧ ks.length ≤ 1000 ∧
  P (.d (.bool (pshowB h t pl k ks qs)))
theorem law__law_show : ∀ vs P, S__law_show vs P → defD 12 (b__law_show S__law_there S__law_inside S__law_key S__law_out_right) vs P := by
  rintro vs P ⟨h, t, pl, k, ks, qs, rfl, H, T, Q, hl, hks, hp⟩
  have n1 : (("far" : Str) = "in") = False := eq_false (by decide +kernel)
  have n2 : (("in" : Str) = "far") = False := eq_false (by decide +kernel)
  have n3 : (("out" : Str) = "in") = False := eq_false (by decide +kernel)
  have n4 : (("out" : Str) = "far") = False := eq_false (by decide +kernel)
  have c1 : ∀ xs : List PyData, cut xs (some 1) none = xs.drop 1 := fun xs => cut_from (k := 1)
  obtain ⟨ta, tb, ht⟩ := eTr_tup t
  have hd1 := H.d1
  have hd4 := H.d4
  simp [b__law_show, startD]
  refine for_indT _ (fun rest e => ∃ (ns acc : List Int) (x y : Option Val), e = [some (.d (eHo h)), some (.d (eTr t)), some (.d (ePl pl)), some (.d (eKi k)), some (.l (ks.map eK)), some (.d (.tuple (qs.map ePt))), some (.o (ns.map .int)), some (.o (acc.map .int)), x, y, none, none] ∧
      (∀ q ∈ rest, q ∈ qs) ∧ runB h pl k ks t rest acc = runB h pl k ks t qs [] ∧ acc.length + rest.length ≤ 100 ∧ ns.length + rest.length * 100 ≤ 10000 ∧ (ns ++ rest.flatMap fun q => (atq t q).ns) = (qs.map (atq t)).flatMap Tr.ns) ?_ ?_ _ _ ⟨[], [], none, none, by simp, fun _ h => h, rfl, by simpa using Q.1, by have := Q.1; simp; omega, by simp [List.flatMap_map]⟩
  · rintro q rest e N ⟨ns, acc, x, y, rfl, h1, h2, h3, h4, h5⟩ hN
    obtain ⟨a1, a2, a3, a4⟩ := Q.at T (h1 q (by simp))
    obtain ⟨ua, ub, hu⟩ := eTr_tup (atq t q)
    have hmem : ∀ q ∈ rest, q ∈ qs := fun q hq => h1 q (by simp [hq])
    have hnl := a3.nl
    have hbl := a3.bl
    simp at h3
    simp at h4
    simp
    refine ⟨t, _, q, rfl, by omega, a2, ?_⟩
    simp only [runB] at h2
    have okN : ∀ acc', runB h pl k ks t rest acc' = runB h pl k ks t qs [] → acc'.length + rest.length ≤ 100 → N [some (.d (eHo h)), some (.d (eTr t)), some (.d (ePl pl)), some (.d (eKi k)), some (.l (ks.map eK)), some (.d (.tuple (qs.map ePt))), some (.o (ns.map .int ++ (atq t q).ns.map .int)), some (.o (acc'.map .int)), some (.d (ePt q)), some (.d (eTr (atq t q))), none, none] := fun acc' hr ha =>
      hN _ ⟨ns ++ (atq t q).ns, acc', some (.d (ePt q)), some (.d (eTr (atq t q))), by simp, hmem, hr, ha, by simp; omega, by rw [← h5]; simp⟩
    have noP : turnB h pl k ks (atq t q) q = none → P (.d (.bool false)) := fun hc => by
      rw [hc] at h2
      simp at h2
      unfold pshowB at hp
      rw [← h2] at hp
      exact hp
    obtain ⟨p, qk⟩ := q
    have hne0 : (atq t ⟨p, qk⟩).bs ≠ [] := fun z => by
      rw [z] at hbl
      simp at hbl
      omega
    have hne : (atq t ⟨p, qk⟩).ns ≠ [] := a3.ne
    cases qk with
    | inn =>
      simp [ePt, hu, c1, n2]
      refine ⟨by simp [PyData.depth, PyData.depthAll], ?_⟩
      by_cases hlen : (atq t ⟨p, .inn⟩).ns.length = 1
      · simp [eNs, hlen]
        refine ⟨_, (atq t ⟨p, .inn⟩).bs, pl, rfl, .inl rfl, hne0, by rw [hbl, hl], a3.or, ?_⟩
        cases hi : liesW ((atq t ⟨p, .inn⟩).bs.map sb) pl with
        | true =>
          simp [hd_at hne, hlen]
          have := okN (acc ++ [hd0 (atq t ⟨p, .inn⟩).ns]) (by rw [← h2]; simp [turnB, isIn, hi, hlen]) (by simp; omega)
          rw [hu] at this
          refine ⟨by omega, by omega, ?_⟩
          simpa [ePt, eNs] using this
        | false =>
          simp
          refine ⟨.inr (by simp [PyData.depth, PyData.depthAll]), ?_⟩
          refine ⟨pl, atq t ⟨p, .inn⟩, ⟨p, .inn⟩, by simp [hu, ePt, eNs], by rw [hl]; exact a1, by rw [hbl, hl], ?_⟩
          simp [isOut]
          exact noP (by simp [turnB, isIn, isOut, isFarB, hi])
      · have hlen' : ¬ ((atq t ⟨p, .inn⟩).ns.length : Int) = 1 := by omega
        simp [eNs, hlen']
        refine ⟨.inr (by simp [PyData.depth, PyData.depthAll]), ?_⟩
        refine ⟨pl, atq t ⟨p, .inn⟩, ⟨p, .inn⟩, by simp [hu, ePt, eNs], by rw [hl]; exact a1, by rw [hbl, hl], ?_⟩
        simp [isOut]
        exact noP (by simp [turnB, isIn, isOut, isFarB, hlen])
    | out i s =>
      simp [ePt, hu, c1, n3, n4]
      refine ⟨.inr (by simp [PyData.depth, PyData.depthAll]), .inr (by simp [PyData.depth, PyData.depthAll]), ?_⟩
      refine ⟨pl, atq t ⟨p, .out i s⟩, ⟨p, .out i s⟩, by simp [hu, ePt], by rw [hl]; exact a1, by rw [hbl, hl], ?_⟩
      cases ho : isOut (atq t ⟨p, .out i s⟩).bs pl ⟨p, .out i s⟩ with
      | true =>
        simp [eNs]
        have := okN acc (by rw [← h2]; simp [turnB, isIn, ho]) (by omega)
        rw [hu] at this
        refine ⟨by omega, by omega, ?_⟩
        simpa [ePt, eNs] using this
      | false =>
        simp
        exact noP (by simp [turnB, isIn, ho, isFarB])
    | far =>
      simp [ePt, hu, c1, n1]
      refine ⟨.inr (by simp [PyData.depth, PyData.depthAll]), by simp [PyData.depth, PyData.depthAll], .inr (by simp [PyData.depth, PyData.depthAll]), ?_⟩
      rw [eqL_nil]
      have okF : isFarB ks (keyU (wofH h) (atq t ⟨p, .far⟩) k) ⟨p, .far⟩ = true → ns.length ≤ 100000 ∧ (atq t ⟨p, .far⟩).ns.length ≤ 100000 ∧ N [some (.d (eHo h)), some (.d (eTr t)), some (.d (ePl pl)), some (.d (eKi k)), some (.l (ks.map eK)), some (.d (.tuple (qs.map ePt))), some (.o (ns.map .int ++ (atq t ⟨p, .far⟩).ns.map .int)), some (.o (acc.map .int)), some (.d (.tuple [ePath p, .str "far"])), some (.d (.tuple [eNs (atq t ⟨p, .far⟩).ns, eBs (atq t ⟨p, .far⟩).bs, ua, ub])), none, none] := fun hf => by
        have := okN acc (by rw [← h2]; simp [turnB, isIn, isOut, hf]) (by omega)
        rw [hu] at this
        refine ⟨by omega, by omega, ?_⟩
        simpa [ePt] using this
      cases hg : ks.getLast? with
      | none =>
        have := okF (by simp [isFarB, hg])
        simp [eNs]
        simpa [eNs] using this
      | some l =>
        simp
        refine ⟨h, atq t ⟨p, .far⟩, k, by simp [hu], H, a3, ?_⟩
        have hat : L2.atI (ks.map eK) (-1) = some (eK l) := by
          rw [at_map, at_last hg]
          rfl
        simp [hat, alike_K]
        refine ⟨Nat.le_trans depth_K (by omega), ?_⟩
        cases hk : ltK l (keyU (wofH h) (atq t ⟨p, .far⟩) k) with
        | true =>
          have hk' : PySem.W.dataLt (eK l) (eK (keyU (wofH h) (atq t ⟨p, .far⟩) k)) = true := hk
          have := okF (by simp [isFarB, hg, hk])
          simp [hk', eNs]
          simpa [eNs] using this
        | false =>
          have hk' : PySem.W.dataLt (eK l) (eK (keyU (wofH h) (atq t ⟨p, .far⟩) k)) = false := hk
          simp [hk']
          exact noP (by simp [turnB, isIn, isOut, isFarB, hg, hk])
  · rintro e ⟨ns, acc, x, y, rfl, h1, h2, h3, h4, h5⟩
    simp [runB] at h2
    unfold pshowB at hp
    rw [← h2] at hp
    simp only at hp
    simp at h3 h4 h5
    have s0 := ints_sortable ns
    have s1 := ints_sortable acc
    have s2 := ints_sortable (ks.map (·.2))
    have e1 : ((ks.map fun x => PyData.int x.2)) = (ks.map (·.2)).map .int := by rw [List.map_map]; rfl
    simp only [st_ret, ap_andV, ap_op, ap_f, ap_cons, ap_var, ap_nil]
    simp only [List.getElem?_cons_succ, List.getElem?_cons_zero, Option.some.injEq, exists_eq_left', rd_o, rd_l, rd_d, f_sorted, lst_l, ints_alike, s0, srtI_map, true_and, ht, ap_c, ap_ix, at_0, f_list, eNs, seq_d, ap_eqoo, depth_ints, List.length_map, eqv_ints, bT_d]
    refine ⟨by omega, ints_depth _, .inl trivial, ?_⟩
    rw [h5]
    by_cases ho : onceB t (qs.map (atq t)) = true
    · have ho' : srtI ((qs.map (atq t)).flatMap Tr.ns) = t.ns := of_decide_eq_true ho
      rw [ho, Bool.and_true] at hp
      simp [ho', ints_alike, s1, srtI_map]
      refine ⟨by omega, by omega, ?_⟩
      refine lc_map _ (fun x => .int x.2) _ _ (fun x hx N acc h1 => ?_) ?_
      · simpa [eK] using h1
      · rw [List.nil_append, e1]
        simp only [lst_o, lst_l, f_sorted, Option.some.injEq, exists_eq_left', ints_alike, s2, true_and, List.length_map, srtI_map, ap_eqoo, depth_ints, eqv_ints]
        exact ⟨by omega, ints_depth _, by rw [eqv_Ns]; exact hp⟩
    · have ho' : ¬ srtI ((qs.map (atq t)).flatMap Tr.ns) = t.ns := fun z => ho (decide_eq_true z)
      have ho2 : onceB t (qs.map (atq t)) = false := by simpa using ho
      rw [ho2, Bool.and_false] at hp
      simpa [ho'] using hp

theorem big18 : L2.CPow 10 18 := ⟨by decide, by decide, by decide⟩
theorem depth_Pt {q : Pt} : (ePt q).depth ≤ 2 := by
  have hp : (ePath q.p).depth ≤ 1 := depth_tup fun x hx => by
    obtain ⟨b, _, rfl⟩ := List.mem_map.mp hx
    simp [eStep]
  refine depth_tup fun x hx => ?_
  rcases List.mem_cons.mp hx with rfl | hx
  · exact hp
  · cases hk : q.k with
    | inn =>
      rw [hk] at hx
      simp at hx
      subst hx
      simp
    | far =>
      rw [hk] at hx
      simp at hx
      subst hx
      simp
    | out i s =>
      rw [hk] at hx
      simp [eStep] at hx
      rcases hx with rfl | rfl | rfl <;> simp
def S__law_is_paper : DF := fun vs P => ∃ (h : Ho) (t : Tr) (pl : Pl) (k : Ki) (m : Int) (us : List Th) (qs : List Pt), vs = [.d (eHo h), .d (eTr t), .d (ePl pl), .d (eKi k), .d (.int m), .d (ePaper us qs)] ∧ House h ∧ Tree h t ∧ Parts h t qs ∧ pl.length = h.d ∧ us.length ≤ 1000 ∧ (∀ u ∈ us, u ∈ h.ts) ∧
  P (.d (.bool (drawnB h t pl k m us qs)))
theorem law__law_is_paper : ∀ vs P, S__law_is_paper vs P → defD 13 (b__law_is_paper S__law_whole S__law_thing_key S__law_show) vs P := by
  rintro vs P ⟨h, t, pl, k, m, us, qs, rfl, H, T, Q, hl, hus, hu, hp⟩
  have hd4 := H.d4
  have c1 : ∀ xs : List PyData, cut xs (some 1) none = xs.drop 1 := fun xs => cut_from (k := 1)
  have e18 : (10 : Int) ^ Int.toNat 18 = 10 ^ 18 := rfl
  simp [b__law_is_paper, startD, ePaper, isi_tup]
  simp [eNs, isi_tup]
  unfold drawnB at hp
  by_cases hm : m < us.length
  · rw [if_pos hm] at hp
    simpa [hm] using hp
  rw [if_neg hm] at hp
  simp [hm]
  refine ⟨by omega, ?_⟩
  rw [show (PyData.int ∘ fun x : Th => x.n) = fun x : Th => PyData.int x.n from rfl]
  refine lc_map _ (fun _ => .bool true) _ _ (fun u hu' N acc h1 => ?_) ?_
  · simp
    refine ⟨big18, u.n, 10 ^ 18, rfl, ?_⟩
    obtain ⟨g1, g2⟩ := H.nm u (hu u hu')
    rw [decide_eq_true g1, decide_eq_true g2]
    simpa using h1
  refine f_all (ns := us.map fun _ => true) (by simp) ?_
  have e : (us.map fun _ => true).all id = true := List.all_eq_true.mpr fun x hx => by
    obtain ⟨_, _, rfl⟩ := List.mem_map.mp hx
    rfl
  rw [e]
  simp
  refine ⟨by omega, ?_⟩
  refine lc_map _ (fun u => eK (keyT k u)) _ _ (fun u hu' N acc h1 => ?_) ?_
  · simp
    exact ⟨h, k, u, by simp, H, hu u hu', by simpa using h1⟩
  have enn : ((us.map fun u => eK (keyT k u)).any isNoneD) = false := by
    rw [List.any_map, List.any_eq_false]
    intro u _
    simp [isNoneD, eK]
  have ez : zipD (us.map fun u => eK (keyT k u)) (us.map fun u => eK (keyT k u)).tail = ((us.map (keyT k)).zip (us.map (keyT k)).tail).map fun p => PyData.tuple [eK p.1, eK p.2] := by
    rw [show (us.map fun u => eK (keyT k u)) = (us.map (keyT k)).map eK from by rw [List.map_map]; rfl, ← List.map_tail, zipD_map]
  simp [enn, c1]
  refine ⟨by omega, ?_⟩
  rw [ez]
  refine lc_map _ (fun p => .bool (ltK p.1 p.2)) _ _ (fun p hp' N acc h1 => ?_) ?_
  · simp [alike_K]
    exact ⟨Nat.le_trans depth_K (by omega), by simpa [ltK] using h1⟩
  refine f_all (ns := (((us.map (keyT k)).zip (us.map (keyT k)).tail).map fun p => ltK p.1 p.2)) (by simp) ?_
  change bT (.d (.bool (risingB (us.map (keyT k))))) _
  simp
  cases hr : risingB (us.map (keyT k)) with
  | false =>
    rw [hr] at hp
    simpa using hp
  | true =>
    rw [hr] at hp
    simp
    refine ⟨h, t, pl, k, us.map (keyT k), qs, by simp [Function.comp_def], H, T, Q, hl, by simpa using hus, ?_⟩
    cases hs : pshowB h t pl k (us.map (keyT k)) qs with
    | false =>
      rw [hs] at hp
      simpa using hp
    | true =>
      rw [hs] at hp
      simp at hp
      simp
      by_cases he : (us.length : Int) = m
      · simpa [he] using hp
      · simp [he] at hp ⊢
        refine ⟨by have := Q.1; omega, ?_⟩
        refine lc_map _ (fun q => (match q.k with | .inn => PyData.str "in" | .out _ _ => .str "out" | .far => .str "far")) _ _ (fun q hq N acc h1 => ?_) ?_
        · obtain ⟨r, hr⟩ := ePt_at1 q
          simp [hr]
          exact h1
        · refine ⟨_, rfl, rfl, List.all_eq_true.mp (far_flat qs), ?_⟩
          rw [List.nil_append]
          exact (congrArg (fun b => P (.d (.bool (!b)))) (far_in qs)).mpr hp
theorem map_msort2 {α β : Type} {f : α → β} {le : β → β → Bool} (l : List α) : (l.map f).mergeSort le = (l.mergeSort fun a b => le (f a) (f b)).map f := (List.map_mergeSort (f := f) (r := fun a b => le (f a) (f b)) (s := le) (l := l) fun _ _ _ _ => rfl).symm
theorem ks_alike (ks : List (Int × Int)) : PySem.W.AllAlike (ks.map eK) := by
  intro d hd d' hd'
  obtain ⟨t, _, rfl⟩ := List.mem_map.mp hd
  obtain ⟨u, _, rfl⟩ := List.mem_map.mp hd'
  exact alike_K
theorem ks_sortable (ks : List (Int × Int)) : PySem.W.Sortable (ks.map eK) := .inl fun d hd => by
  obtain ⟨t, _, rfl⟩ := List.mem_map.mp hd
  exact ⟨_, _, rfl⟩
theorem ks_depth (ks : List (Int × Int)) : ∀ d ∈ ks.map eK, d.depth ≤ 50 := fun d hd => by
  obtain ⟨t, _, rfl⟩ := List.mem_map.mp hd
  exact Nat.le_trans depth_K (by omega)
def S__law_ranked : DF := fun vs P => ∃ (h : Ho) (b : Box) (k : Ki), vs = [.d (eHo h), .d (ePl (plBox b)), .d (eKi k)] ∧ House h ∧ b.length = h.d ∧ ∀ us : List Th, us.length ≤ 30 → (∀ u ∈ us, u ∈ h.ts) → P (.o (us.map fun u => .int u.n))
theorem law__law_ranked : ∀ vs P, S__law_ranked vs P → defD 9 (b__law_ranked S__law_fits S__law_steps) vs P := by
  rintro vs P ⟨h, b, k, rfl, H, hb, hp⟩
  have n1 : (("near" : Str) = "best") = False := eq_false (by decide +kernel)
  have hd4 := H.d4
  have hd1 := H.d1
  simp [b__law_ranked, startD, eHo]
  refine for_indT _ (fun rest e => ∃ (acc : List Th) (x y z : Option Val), e = [some (.d (.tuple [.int h.d, .tuple (h.ts.map eTh)])), some (.d (ePl (plBox b))), some (.d (eKi k)), some (.o (acc.map (eK ∘ keyT k))), x, y, z, none, none] ∧ (∀ x ∈ rest, x ∈ h.ts) ∧ (∀ x ∈ acc, x ∈ h.ts) ∧ acc.length + rest.length ≤ 30) ?_ ?_ _ _ ⟨[], none, none, none, rfl, fun _ h => h, by simp, by simpa using H.len⟩
  · rintro v rest e N ⟨acc, x, y, z, rfl, h1, h2, h3⟩ hN
    have hv := h1 v (by simp)
    have hpl := H.pl v hv
    have hmem : ∀ x ∈ rest, x ∈ h.ts := fun x hx => h1 x (by simp [hx])
    simp at h3
    simp [eTh]
    refine ⟨b, v.p, rfl, by omega, fun z => by rw [z] at hpl; simp at hpl; omega, by omega, ?_⟩
    simp
    cases hf : fitsB b v.p with
    | false =>
      simp
      exact hN _ ⟨acc, _, _, _, rfl, hmem, h2, by omega⟩
    | true =>
      have ok : N [some (.d (.tuple [.int h.d, .tuple (h.ts.map eTh)])), some (.d (ePl (plBox b))), some (.d (eKi k)), some (.o (acc.map (eK ∘ keyT k) ++ [eK (keyT k v)])), some (.d (.int v.n)), some (.d (eNs v.p)), some (.d (.int v.w)), none, none] :=
        hN _ ⟨acc ++ [v], some (.d (.int v.n)), some (.d (eNs v.p)), some (.d (.int v.w)), by simp, hmem, fun x hx => by
          rcases List.mem_append.mp hx with hx | hx
          · exact h2 x hx
          · rw [List.mem_singleton.mp hx]
            exact hv, by simp; omega⟩
      simp
      cases k with
      | best =>
        simp [eKi]
        exact ⟨by omega, by simpa [eKi, eK, keyT, farT] using ok⟩
      | near p =>
        simp [eKi, n1]
        simp [eNs]
        refine ⟨by omega, by omega, ?_⟩
        refine lc_map _ (fun n => eB (n, n)) _ _ (fun n hn N acc h1 => ?_) ?_
        · simpa [eB, ePr, sb, eO] using h1
        · simp
          refine ⟨_, v.p.map fun n => (n, n), p, rfl, .inr (by simp), by simp; omega, ?_⟩
          simpa [eKi, eK, keyT, farT, eNs] using ok
  · rintro e ⟨acc, x, y, z, rfl, h1, h2, h3⟩
    simp at h3
    have e1 : acc.map (eK ∘ keyT k) = (acc.map (keyT k)).map eK := by rw [List.map_map]
    have s1 := ks_alike (acc.map (keyT k))
    have s2 := ks_sortable (acc.map (keyT k))
    have s3 := ks_depth (acc.map (keyT k))
    rw [e1]
    simp only [st_ret, ap_lc, ci_L, ap_f, ap_cons, ap_var, ap_nil]
    simp only [List.getElem?_cons_succ, List.getElem?_cons_zero, Option.some.injEq, exists_eq_left', rd_o, f_sorted, lst_l, lst_o, s1, s2, s3, true_and, List.length_map]
    refine ⟨by omega, fun _ _ => s3 _ ‹_›, by rw [List.length_mergeSort]; simp; omega, ?_⟩
    rw [map_msort, map_msort2]
    have hperm := List.mergeSort_perm acc fun a b => PySem.W.dataLe false id (eK (keyT k a)) (eK (keyT k b))
    refine lc_map _ (fun u => .int u.2) _ _ (fun u hu N acc h1 => ?_) ?_
    · simp [eK]
      exact h1
    · rw [List.nil_append, List.map_map]
      exact hp _ (by rw [hperm.length_eq]; omega) fun u hu => h2 u (hperm.mem_iff.mp hu)
end Bx
/-! Mx9: what is drawn by picks -/
namespace Bx
open PySem
def S__law_pick : DF := fun vs P => ∃ m : Int, vs = [.rng, .d (.int m)] ∧ 0 < m ∧ m < 1073741824 ∧ ∀ r : Int, 0 ≤ r → r < m → P (.d (.int r))
theorem pk {m : Int} {P : Val → Prop} (h0 : 0 < m) (h1 : m < 1073741824) (h : ∀ r : Int, 0 ≤ r → r < m → P (.d (.int r))) : S__law_pick [.rng, .d (.int m)] P := ⟨m, rfl, h0, h1, h⟩
/-- one of a list -/
theorem pick_at {xs : List PyData} {r : Int} {Q : PyData → Prop} (h0 : 0 ≤ r) (h1 : r < xs.length) (h : ∀ v ∈ xs, Q v) : ∃ v, L2.atI xs r = some v ∧ Q v := by
  obtain ⟨v, h2, h3⟩ := at_some h0 h1
  exact ⟨v, h2, h v h3⟩
def S__law_left : DF := fun vs P => ∃ (ns : List Int) (k : Int), vs = [.s ns, .d (.int k)] ∧ 0 ≤ k ∧ k < 5 ∧ ∀ x y z : Int, P (.o [.int x, .int y, .int z])
theorem law__law_left : ∀ vs P, S__law_left vs P → defD 4 b__law_left vs P := by
  rintro vs P ⟨ns, k, rfl, h0, h5, hp⟩
  have q18 : L2.CPow 10 18 := big18
  have q60 : L2.CPow 10 60 := ⟨by decide, by decide, by decide⟩
  have m1 : ∀ x : Int, L2.CMul 7919 x := fun x => .inl ⟨by decide, by decide⟩
  have m2 : ∀ x : Int, L2.CMul x k := fun x => .inr ⟨by omega, by omega⟩
  have m3 : ∀ x : Int, L2.CMul x 48271 := fun x => .inr ⟨by decide, by decide⟩
  have m4 : ∀ (x : Int) (b : Bool), L2.CMul x (if b = true then 1 else 0) := fun x b => .inr (by cases b <;> exact ⟨by decide, by decide⟩)
  have n60 : ¬ (10 : Int) ^ Int.toNat 60 = 0 := by decide
  have hmid : ∀ c : Int, sSeq (sSetF (oMul (oMod (dF fAbs (dCons (dVar 2) (dNil))) (oPow (dC (.int 10)) (dC (.int 60)))) (dF fInt (dCons (oGe (dF fAbs (dCons (dVar 2) (dNil))) (oPow (dC (.int 10)) (dC (.int 18)))) (dNil)))) 3) (sRet (dLst (dCons (dVar 3) (dCons (oMod (oMul (oAdd (oAdd (oMod (dVar 2) (dC (.int 2305843009213693951))) (oMul (oMul (dC (.int 7919)) (dVar 1)) (dVar 1))) (dC (.int 11))) (dC (.int 48271))) (dC (.int 2147483647))) (dCons (dC (.int 0)) (dNil)))))) { nx := fun _ => P (.d .none), rt := P } [some (.s ns), some (.d (.int k)), some (.d (.int c)), none] := by
    intro c
    simp only [st_seq, st_setF, st_ret, ap_op, ap_f, ap_cons, ap_var, ap_nil, ap_c, ap_lst, List.getElem?_cons_succ, List.getElem?_cons_zero, Option.some.injEq, exists_eq_left', rd_d, f_abs, ap_I2, f_int, own_d, fz_d, List.set_cons_succ, List.set_cons_zero, mD_cons, mD_nil, true_and, q18, q60, m1, m2, m3, m4]
    simp only [ne_eq, n60, not_false_eq_true, true_and]
    refine ⟨by decide, by decide, hp _ _ _⟩
  simp only [b__law_left, df_ap]
  show sSeq _ _ _ [some (.s ns), some (.d (.int k)), none, none]
  by_cases hl : 0 < ns.length
  · have hl' : (0 : Int) < ns.length := by omega
    have hm1 : 0 ≤ k.fmod ns.length := by
      rw [Int.fmod_eq_emod_of_nonneg k (by omega)]
      exact Int.emod_nonneg _ (by omega)
    have hm2 : k.fmod ns.length < (ns.map PyData.int).length := by
      rw [Int.fmod_eq_emod_of_nonneg k (by omega), List.length_map]
      exact Int.emod_lt_of_pos _ hl'
    simp [hl]
    refine ⟨fun z => by rw [z] at hl; simp at hl, ?_⟩
    refine pick_at hm1 hm2 fun v hv => ?_
    obtain ⟨c, _, rfl⟩ := List.mem_map.mp hv
    try simp
    simpa using hmid c
  · have e : ns = [] := List.eq_nil_of_length_eq_zero (by omega)
    subst e
    try simp
    simpa using hmid 0
/-! ### a house -/
theorem f2_range {α : Type} {R : α → PyData → Prop} {xs : List α} {ys : List PyData} (h : F2 R xs ys) (hr : ∀ a d, R a d → ∃ n : Int, d = .int n) : ∃ ns : List Int, ys = ns.map .int ∧ ns.length = xs.length := by
  induction h with
  | nil => exact ⟨[], rfl, rfl⟩
  | cons a _ ih =>
    obtain ⟨ns, h1, h2⟩ := ih
    obtain ⟨n, h3⟩ := hr _ _ a
    exact ⟨n :: ns, by rw [h1, h3]; rfl, by simp [h2]⟩
theorem map_filter_true {α : Type} (l : List α) : l.filter (fun _ => true) = l := List.filter_eq_self.mpr fun _ _ => rfl
def S__law_house : DF := fun vs P => vs = [.rng] ∧ ∀ h, House h → P (.d (eHo h))
def eI (i : Nat) : PyData := .int (i : Int)
theorem law__law_house : ∀ vs P, S__law_house vs P → defD 10 (b__law_house S__law_pick) vs P := by
  rintro vs P ⟨rfl, hp⟩
  have q15 : L2.CPow 10 15 := ⟨by decide, by decide, by decide⟩
  have q17 : L2.CPow 10 17 := ⟨by decide, by decide, by decide⟩
  simp [b__law_house, startD]
  refine pk (by decide) (by decide) fun r h0 h1 => ?_
  try simp
  refine pick_at h0 (by simpa using h1) fun dv hd => ?_
  obtain ⟨d, rfl, hd1, hd4⟩ : ∃ d : Nat, dv = .int d ∧ 1 ≤ d ∧ d ≤ 4 := by
    simp at hd
    rcases hd with rfl | rfl | rfl | rfl
    · exact ⟨1, rfl, by omega, by omega⟩
    · exact ⟨2, rfl, by omega, by omega⟩
    · exact ⟨3, rfl, by omega, by omega⟩
    · exact ⟨4, rfl, by omega, by omega⟩
  try simp
  refine pk (by decide) (by decide) fun r h0 h1 => ?_
  try simp
  refine pick_at h0 (by simpa using h1) fun wv hw => ?_
  obtain ⟨wi, rfl, hw1, hw4⟩ : ∃ d : Int, wv = .int d ∧ 1 ≤ d ∧ d ≤ 40 := by
    simp at hw
    rcases hw with rfl | rfl | rfl | rfl | rfl | rfl <;> exact ⟨_, rfl, by omega, by omega⟩
  try simp
  refine ⟨q15, ?_⟩
  refine pk (by decide) (by decide) fun r h0 h1 => ?_
  try simp
  refine pick_at h0 (by simpa using h1) fun sv hs => ?_
  obtain ⟨sc, rfl⟩ : ∃ d : Int, sv = .int d := by
    simp at hs
    rcases hs with rfl | rfl | rfl <;> exact ⟨_, rfl⟩
  try simp
  refine pk (by decide) (by decide) fun nm hn0 hn1 => ?_
  try simp
  refine pk (by decide) (by decide) fun r h0 h1 => ?_
  try simp
  refine pick_at h0 (by simpa using h1) fun cv hc => ?_
  obtain ⟨cn, rfl, hcn⟩ : ∃ d : Nat, cv = .int d ∧ d ≤ 30 := by
    simp at hc
    rcases hc with rfl | rfl | rfl | rfl | rfl | rfl | rfl | rfl | rfl | rfl
    · exact ⟨0, rfl, by omega⟩
    · exact ⟨1, rfl, by omega⟩
    · exact ⟨2, rfl, by omega⟩
    · exact ⟨3, rfl, by omega⟩
    · exact ⟨4, rfl, by omega⟩
    · exact ⟨6, rfl, by omega⟩
    · exact ⟨8, rfl, by omega⟩
    · exact ⟨12, rfl, by omega⟩
    · exact ⟨20, rfl, by omega⟩
    · exact ⟨30, rfl, by omega⟩
  try simp
  refine ⟨by omega, ?_⟩
  refine for_indT (α := Nat) _ (fun rest e => ∃ (ts : List Th) (nm : Int) (x y z : Option Val), e = [some .rng, some (.d (.int d)), some (.d (.int wi)), some (.d (.int sc)), some (.o (ts.map eTh)), some (.d (.int nm)), x, y, z, none] ∧ ts.length + rest.length ≤ 30 ∧
      (∀ x ∈ ts, x.p.length = d) ∧ (∀ x ∈ ts, 0 ≤ x.n ∧ x.n < nm) ∧ (ts.map (·.n)).Nodup ∧ 0 ≤ nm ∧ nm ≤ 41 * ts.length + 2) ?_ ?_ _ _ ⟨[], nm, none, none, none, by simp, by simpa using hcn, by simp, by simp, by simp, hn0, by simp; omega⟩
  · rintro i rest e N ⟨ts, nm, x, y, z, rfl, g1, g2, g3, g4, g5, g6⟩ hN
    simp at g1
    try simp
    refine ⟨by omega, ?_⟩
    refine lc_rel (α := Nat) _ (fun _ => true) (fun _ d => ∃ n : Int, d = .int n) _ _ (fun x hx N acc k1 _ => ?_) fun ys hys => ?_
    · simp
      refine ⟨.inr ⟨by omega, by omega⟩, ?_⟩
      refine pk (by omega) (by omega) fun r h0 h1 => ?_
      try simp
      exact ⟨.inl ⟨by omega, by omega⟩, k1 _ rfl ⟨_, rfl⟩⟩
    · rw [map_filter_true] at hys
      obtain ⟨ns, rfl, hns⟩ := f2_range hys fun _ _ h => h
      simp at hns
      -- the rest of the turn, for any place
      have fin : ∀ (pc : List Int) (x : Option Val), pc.length = d → sSeq (sSetF (dOp Bx.rIx (dLst (dCons (oPow (dC (.int 10)) (dC (.int 17))) (dCons (dNeg (oPow (dC (.int 10)) (dC (.int 17)))) (dNil)))) (dCall S__law_pick (dCons (dVar 0) (dCons (dC (.int 2)) (dNil))))) 8) (sSeq (sApp 4 (dTup (dCons (dVar 5) (dCons (dVar 7) (dCons (dOp Bx.rIx (dLst (dCons (oSub (dCall S__law_pick (dCons (dVar 0) (dCons (dC (.int 5)) (dNil)))) (dC (.int 2))) (dCons (oSub (dCall S__law_pick (dCons (dVar 0) (dCons (dC (.int 1000)) (dNil)))) (dC (.int 500))) (dCons (dVar 8) (dNil))))) (dCall S__law_pick (dCons (dVar 0) (dCons (dC (.int 3)) (dNil))))) (dNil)))))) (sSetF (oAdd (oAdd (dVar 5) (dC (.int 1))) (dOp Bx.rIx (dLst (dCons (dC (.int 0)) (dCons (dC (.int 0)) (dCons (dC (.int 1)) (dCons (dC (.int 7)) (dCons (dC (.int 40)) (dNil))))))) (dCall S__law_pick (dCons (dVar 0) (dCons (dC (.int 5)) (dNil)))))) 5))
          { nx := N, rt := P, bk := sRet (dTup (dCons (dVar 1) (dCons (dF fTuple (dCons (dVar 4) dNil)) dNil))) { nx := fun _ => P (.d .none), rt := P }, ct := N } [some .rng, some (.d (.int d)), some (.d (.int wi)), some (.d (.int sc)), some (.o (ts.map eTh)), some (.d (.int nm)), x, some (.d (eNs pc)), z, none] := by
        intro pc x hpc
        simp [q17]
        refine pk (by decide) (by decide) fun r h0 h1 => ?_
        try simp
        refine pick_at h0 (by simpa using h1) fun fv hf => ?_
        obtain ⟨fa, rfl⟩ : ∃ n : Int, fv = .int n := by
          simp at hf
          rcases hf with rfl | rfl <;> exact ⟨_, rfl⟩
        try simp
        refine ⟨by omega, ?_⟩
        refine pk (by decide) (by decide) fun r5 h50 h51 => ?_
        try simp
        refine pk (by decide) (by decide) fun r6 h60 h61 => ?_
        try simp
        refine pk (by decide) (by decide) fun r7 h70 h71 => ?_
        try simp
        refine pick_at h70 (by simpa using h71) fun wv hw => ?_
        obtain ⟨wo, rfl⟩ : ∃ n : Int, wv = .int n := by
          simp at hw
          rcases hw with rfl | rfl | rfl <;> exact ⟨_, rfl⟩
        try simp
        refine pk (by decide) (by decide) fun r h0 h1 => ?_
        try simp
        refine pick_at h0 (by simpa using h1) fun av ha => ?_
        obtain ⟨ad, rfl, ha0, ha1⟩ : ∃ n : Int, av = .int n ∧ 0 ≤ n ∧ n ≤ 40 := by
          simp at ha
          rcases ha with rfl | rfl | rfl | rfl <;> exact ⟨_, rfl, by omega, by omega⟩
        try simp
        refine hN _ ⟨ts ++ [⟨nm, pc, wo⟩], nm + 1 + ad, x, some (.d (eNs pc)), some (.d (.int fa)), by simp [eTh], by simp; omega, fun x hx => ?_, fun x hx => ?_, ?_, by omega, by simp; omega⟩
        · rcases List.mem_append.mp hx with hx | hx
          · exact g2 x hx
          · rw [List.mem_singleton.mp hx]
            exact hpc
        · rcases List.mem_append.mp hx with hx | hx
          · have := g3 x hx
            omega
          · rw [List.mem_singleton.mp hx]
            exact ⟨g5, by show nm < _; omega⟩
        · rw [List.map_append, List.nodup_append]
          refine ⟨g4, by simp, fun a ha b hb => ?_⟩
          obtain ⟨x, hx, rfl⟩ := List.mem_map.mp ha
          have := g3 x hx
          simp at hb
          omega
      refine ⟨_, rfl, .inr (by simp [PyData.depth, PyData.depthAll]), ?_⟩
      have f1 := fin ns (some (.d (.int i))) hns
      by_cases ht : PyData.eqvAll (ts.map eTh) [] = true
      · rw [if_pos ht]
        simpa [eNs] using f1
      · rw [if_neg ht]
        have hne : 0 < ts.length := by
          cases ts with
          | nil => exact absurd rfl ht
          | cons a b => simp
        refine pk (by decide) (by decide) fun r h0 h1 => ?_
        simp
        by_cases hr : r = 0
        · simp [hr]
          refine pk (by omega) (by omega) fun r h0 h1 => ?_
          simp
          refine pick_at h0 (by simpa using h1) fun v hv => ?_
          obtain ⟨x, hx, rfl⟩ := List.mem_map.mp hv
          have f2 := fin x.p (some (.d (.int i))) (g2 x hx)
          simp [eTh]
          simpa [eTh] using f2
        · simp [hr]
          simpa [eNs] using f1
  · rintro e ⟨ts, nm, x, y, z, rfl, g1, g2, g3, g4, g5, g6⟩
    simp at g1
    try simp
    refine hp ⟨d, ts⟩ ⟨hd1, hd4, g1, g4, g2, fun x hx => ?_⟩
    have := g3 x hx
    refine ⟨this.1, ?_⟩
    have e : (10 : Int) ^ 18 = 1000000000000000000 := by decide
    rw [e]
    omega
end Bx
/-! Mx10: numbers, boxes, kinds, bounds, trees -/
namespace Bx
open PySem
def S__law_number : DF := fun vs P => ∃ (h : Ho) (i : Nat), vs = [.rng, .d (eHo h), .d (.int i)] ∧ House h ∧ i < h.d ∧ ∀ r : Int, P (.d (.int r))
theorem law__law_number : ∀ vs P, S__law_number vs P → defD 5 (b__law_number S__law_pick) vs P := by
  rintro vs P ⟨h, i, rfl, H, hi, hp⟩
  have hl := H.len
  simp [b__law_number, startD, eHo]
  refine ⟨by omega, ?_⟩
  refine lc_map _ (fun x => .int (x.p.getD i 0)) _ _ (fun x hx N acc h1 => ?_) ?_
  · have hpl := H.pl x hx
    have hip : i < x.p.length := by omega
    have e : x.p.getD i 0 = x.p[i] := by rw [List.getD_eq_getElem?_getD, List.getElem?_eq_getElem hip]; rfl
    rw [e] at h1
    simp [eTh]
    simp [eNs, at_enc hip]
    exact h1
  · simp
    refine ⟨by omega, ?_⟩
    refine pk (by omega) (by omega) fun r h0 h1 => ?_
    simp
    refine pick_at h0 (by simpa using h1) fun v hv => ?_
    obtain ⟨n, rfl⟩ : ∃ n : Int, v = .int n := by
      rcases List.mem_append.mp hv with hv | hv
      · obtain ⟨x, _, rfl⟩ := List.mem_map.mp hv
        exact ⟨_, rfl⟩
      · rw [List.mem_singleton.mp hv]
        exact ⟨_, rfl⟩
    refine pk (by decide) (by decide) fun r h0 h1 => ?_
    simp
    refine pick_at h0 (by simpa using h1) fun v hv => ?_
    obtain ⟨m, rfl⟩ : ∃ n : Int, v = .int n := by
      simp at hv
      rcases hv with rfl | rfl | rfl | rfl <;> exact ⟨_, rfl⟩
    simp
    exact hp _
def S__law_box : DF := fun vs P => ∃ (h : Ho), vs = [.rng, .d (eHo h)] ∧ House h ∧ ∀ b : Box, b.length = h.d → P (.d (eBox b))
theorem law__law_box : ∀ vs P, S__law_box vs P → defD 7 (b__law_box S__law_number S__law_pick) vs P := by
  rintro vs P ⟨h, rfl, H, hp⟩
  have hd4 := H.d4
  simp [b__law_box, startD, eHo]
  refine ⟨by omega, ?_⟩
  refine for_indT (α := Nat) _ (fun rest e => ∃ (b : Box) (x y z w : Option Val), e = [some .rng, some (.d (.tuple [.int h.d, .tuple (h.ts.map eTh)])), some (.o (b.map eSp)), x, y, z, w] ∧ b.length + rest.length = h.d ∧ ∀ i ∈ rest, i < h.d) ?_ ?_ _ _ ⟨[], none, none, none, none, by simp, by simp, by simp⟩
  · rintro i rest e N ⟨b, x, y, z, w, rfl, g1, g2⟩ hN
    have hi := g2 i (by simp)
    simp at g1
    have fin : ∀ (n1 n2 : Int) (w : Option Val), sSeq (sSetF (dOp Bx.rIx (dLst (dCons (dC .none) (dCons (dTup (dCons (dVar 4) (dCons (dC (.bool true)) (dNil)))) (dCons (dTup (dCons (dVar 4) (dCons (dC (.bool false)) (dNil)))) (dCons (dTup (dCons (dVar 4) (dCons (dC (.bool true)) (dNil)))) (dNil)))))) (dCall S__law_pick (dCons (dVar 0) (dCons (dC (.int 4)) (dNil))))) 6) (sApp 2 (dTup (dCons (dVar 6) (dCons (dOp Bx.rIx (dLst (dCons (dC .none) (dCons (dTup (dCons (dVar 5) (dCons (dC (.bool true)) (dNil)))) (dCons (dTup (dCons (dVar 5) (dCons (dC (.bool false)) (dNil)))) (dCons (dTup (dCons (dVar 5) (dCons (dC (.bool true)) (dNil)))) (dNil)))))) (dCall S__law_pick (dCons (dVar 0) (dCons (dC (.int 4)) (dNil))))) (dNil)))))
        { nx := N, rt := P, bk := sRet (dF fTuple (dCons (dVar 2) dNil)) { nx := fun _ => P (.d .none), rt := P }, ct := N } [some .rng, some (.d (.tuple [.int h.d, .tuple (h.ts.map eTh)])), some (.o (b.map eSp)), some (.d (.int i)), some (.d (.int n1)), some (.d (.int n2)), w] := by
      intro n1 n2 w
      have isB : ∀ (n : Int) (v : PyData), v ∈ [PyData.none, .tuple [.int n, .bool true], .tuple [.int n, .bool false], .tuple [.int n, .bool true]] → ∃ bd : Bd, v = eBd bd := by
        intro n v hv
        simp at hv
        rcases hv with rfl | rfl | rfl | rfl
        · exact ⟨none, rfl⟩
        · exact ⟨some (n, true), rfl⟩
        · exact ⟨some (n, false), rfl⟩
        · exact ⟨some (n, true), rfl⟩
      simp
      refine pk (by decide) (by decide) fun r h0 h1 => ?_
      simp
      refine pick_at h0 (by simpa using h1) fun v hv => ?_
      obtain ⟨b1, rfl⟩ := isB n1 v hv
      refine ⟨by omega, ?_⟩
      refine pk (by decide) (by decide) fun r h0 h1 => ?_
      simp
      refine pick_at h0 (by simpa using h1) fun v hv => ?_
      obtain ⟨b2, rfl⟩ := isB n2 v hv
      try simp
      exact hN _ ⟨b ++ [(b1, b2)], some (.d (.int i)), some (.d (.int n1)), some (.d (.int n2)), some (.d (eBd b1)), by simp [eSp], by simp; omega, fun j hj => g2 j (by simp [hj])⟩
    simp
    refine ⟨h, i, by simp [eHo], H, hi, fun n1 => ?_⟩
    refine ⟨h, i, by simp [eHo], H, hi, fun n2 => ?_⟩
    simp
    have f1 := fin n1 n2 w
    have f2 := fin n2 n1 w
    by_cases hc : n2 < n1
    · simp [hc]
      refine pk (by decide) (by decide) fun r h0 h1 => ?_
      simp
      by_cases hr : 0 < r
      · simp [hr]
        simpa using f2
      · simp [hr]
        simpa using f1
    · simp [hc]
      simpa using f1
  · rintro e ⟨b, x, y, z, w, rfl, g1, g2⟩
    simp at g1
    simp
    simpa [eBox] using hp b g1
def S__law_kind : DF := fun vs P => ∃ (h : Ho), vs = [.rng, .d (eHo h)] ∧ House h ∧ ∀ k : Ki, P (.d (eKi k))
theorem law__law_kind : ∀ vs P, S__law_kind vs P → defD 4 (b__law_kind S__law_number S__law_pick) vs P := by
  rintro vs P ⟨h, rfl, H, hp⟩
  have hd4 := H.d4
  simp [b__law_kind, startD, eHo]
  refine ⟨by omega, ?_⟩
  refine lc_rel (α := Nat) _ (fun _ => true) (fun _ d => ∃ n : Int, d = .int n) _ _ (fun x hx N acc k1 _ => ?_) fun ys hys => ?_
  · have hx' : x < h.d := by simpa using hx
    simp
    exact ⟨h, x, by simp [eHo], H, hx', fun r => by simpa using k1 _ rfl ⟨_, rfl⟩⟩
  · rw [map_filter_true] at hys
    obtain ⟨ns, rfl, hns⟩ := f2_range hys fun _ _ h => h
    simp
    refine pk (by decide) (by decide) fun r h0 h1 => ?_
    simp
    refine pick_at h0 (by simpa using h1) fun v hv => ?_
    simp at hv
    rcases hv with rfl | rfl | rfl
    · exact hp .best
    · exact hp (.near ns)
/-! ### bounds -/
theorem f2_snoc {α β : Type} {R : α → β → Prop} {xs : List α} {ys : List β} {x : α} {y : β} (h : F2 R xs ys) (r : R x y) : F2 R (xs ++ [x]) (ys ++ [y]) := by
  induction h with
  | nil => exact .cons r .nil
  | cons a _ ih => exact .cons a ih
def S__law_bounds : DF := fun vs P => ∃ (ts : List Th) (d : Nat), vs = [.l (ts.map eTh)] ∧ ts ≠ [] ∧ ts.length ≤ 1000 ∧ d ≤ 1000 ∧ (∀ x ∈ ts, x.p.length = d) ∧ ∀ bs : Bs, bs.length = d → (∀ x ∈ ts, inB bs x.p) → P (.d (eBs bs))
theorem law__law_bounds : ∀ vs P, S__law_bounds vs P → defD 7 b__law_bounds vs P := by
  rintro vs P ⟨ts, d, rfl, hne, hz, hd, hpl, hp⟩
  simp [b__law_bounds, startD]
  refine ⟨by omega, ?_⟩
  refine lc_map _ (fun x => eNs x.p) _ _ (fun x hx N acc h1 => ?_) ?_
  · simpa [eTh] using h1
  obtain ⟨t0, tr, ht⟩ : ∃ t r, ts = t :: r := by
    cases ts with
    | nil => exact absurd rfl hne
    | cons t r => exact ⟨t, r, rfl⟩
  have h0 : L2.atI (ts.map fun x => eNs x.p) 0 = some (eNs t0.p) := by rw [ht]; simp
  have hp0 : t0.p.length = d := hpl t0 (by rw [ht]; simp)
  simp [h0]
  simp [eNs, hp0]
  refine ⟨by omega, ?_⟩
  refine for_indT (α := Nat) _ (fun rest e => ∃ (bs : Bs) (x y : Option Val), e = [some (.l (ts.map eTh)), some (.l (ts.map fun x => .tuple (x.p.map .int))), some (.o (bs.map eB)), x, y, none, none] ∧ (bs.length + rest.length = d) ∧ rest = (List.range' bs.length rest.length) ∧ ∀ x ∈ ts, inB bs (x.p.take bs.length)) ?_ ?_ _ _ ⟨[], none, none, rfl, by simp, by rw [List.range_eq_range']; simp, fun x _ => .nil⟩
  · rintro i rest e N ⟨bs, x, y, rfl, g1, g2, g3⟩ hN
    simp at g1
    rw [List.length_cons, List.range'_succ] at g2
    injection g2 with gi g2
    subst gi
    have hi : ∀ x ∈ ts, bs.length < x.p.length := fun x hx => by rw [hpl x hx]; omega
    simp
    refine ⟨by omega, ?_⟩
    refine lc_map (α := Th) _ (fun x => .int (x.p.getD bs.length 0)) _ _ (fun x hx N acc h1 => ?_) ?_
    · have hip := hi x hx
      have e : x.p.getD bs.length 0 = x.p[bs.length] := by rw [List.getD_eq_getElem?_getD, List.getElem?_eq_getElem hip]; rfl
      rw [e] at h1
      simp [at_enc hip]
      exact h1
    · simp
      refine ⟨by omega, ?_⟩
      refine ⟨_, ts.map fun x => x.p.getD bs.length 0, rfl, by simp, by simp; exact List.length_pos_iff.mpr hne, fun lo hlo hlo2 => ?_⟩
      refine ⟨_, ts.map fun x => x.p.getD bs.length 0, rfl, by simp, by simp; exact List.length_pos_iff.mpr hne, fun hg hhg hhg2 => ?_⟩
      simp
      refine hN _ ⟨bs ++ [(lo, hg)], _, _, by simp [eB, sb, ePr, eO]; exact ⟨rfl, rfl⟩, by simp; omega, by simpa using g2, fun x hx => ?_⟩
      have hip := hi x hx
      have e : x.p.take (bs ++ [(lo, hg)]).length = x.p.take bs.length ++ [x.p.getD bs.length 0] := by
        rw [List.length_append, List.length_singleton, List.take_add_one, List.getElem?_eq_getElem hip, List.getD_eq_getElem?_getD, List.getElem?_eq_getElem hip]
        rfl
      unfold inB
      rw [e]
      exact f2_snoc (g3 x hx) ⟨hlo2 _ (List.mem_map_of_mem (f := fun x : Th => x.p.getD bs.length 0) hx), hhg2 _ (List.mem_map_of_mem (f := fun x : Th => x.p.getD bs.length 0) hx)⟩
  · rintro e ⟨bs, x, y, rfl, g1, g2, g3⟩
    simp at g1
    simp
    rw [← eBs_map]
    refine hp bs g1 fun x hx => ?_
    have := g3 x hx
    rw [g1, ← hpl x hx, List.take_length] at this
    exact this
/-! ### trees -/
structure Nd (d : Nat) (ts : List Th) (ns : List Int) (bs : Bs) : Prop where
  pm : ns.Perm (ts.map (·.n))
  bl : bs.length = d
  ib : ∀ x ∈ ts, inB bs x.p
inductive WfT (d : Nat) : List Th → Tr → Prop
  | leaf {ts ns bs} : ts.length = 1 → Nd d ts ns bs → WfT d ts (.leaf ns bs)
  | node {ts ns bs ts1 ts2 l r} : Nd d ts ns bs → (ts1 ++ ts2).Perm ts → ts1 ≠ [] → ts2 ≠ [] → WfT d ts1 l → WfT d ts2 r → WfT d ts (.node ns bs l r)
theorem WfT.nd {d : Nat} {ts : List Th} {t : Tr} (w : WfT d ts t) : Nd d ts t.ns t.bs := by
  cases w <;> assumption
theorem WfT.ne {d : Nat} {ts : List Th} {t : Tr} (w : WfT d ts t) : ts ≠ [] := by
  cases w with
  | leaf h _ => exact fun z => by rw [z] at h; simp at h
  | node _ h h1 _ _ _ =>
    intro z
    rw [z] at h
    have := h.length_eq
    simp at this
    exact h1 this.1
theorem WfT.sub {d : Nat} : ∀ {t : Tr} {ts : List Th}, WfT d ts t → ∀ (p : List Bool) (u : Tr), t.at p = some u → ∃ ts', WfT d ts' u ∧ (∀ x ∈ ts', x ∈ ts) ∧ p.length + ts'.length ≤ ts.length := by
  intro t ts w
  induction w with
  | leaf h n =>
    intro p u hu
    cases p with
    | nil =>
      cases hu
      exact ⟨_, .leaf h n, fun _ h => h, by simp⟩
    | cons b p => simp [Tr.at] at hu
  | node n hp h1 h2 wl wr ihl ihr =>
    rename_i ts ns bs ts1 ts2 l r
    intro p u hu
    have hlen := hp.length_eq
    rw [List.length_append] at hlen
    have p1 := List.length_pos_iff.mpr h1
    have p2 := List.length_pos_iff.mpr h2
    cases p with
    | nil =>
      cases hu
      exact ⟨_, .node n hp h1 h2 wl wr, fun _ h => h, by simp⟩
    | cons b p =>
      cases b with
      | false =>
        obtain ⟨ts', a1, a2, a3⟩ := ihl p u (by simpa [Tr.at] using hu)
        exact ⟨ts', a1, fun x hx => hp.mem_iff.mp (List.mem_append_left _ (a2 x hx)), by simp; omega⟩
      | true =>
        obtain ⟨ts', a1, a2, a3⟩ := ihr p u (by simpa [Tr.at] using hu)
        exact ⟨ts', a1, fun x hx => hp.mem_iff.mp (List.mem_append_right _ (a2 x hx)), by simp; omega⟩
theorem inB_ord {bs : Bs} {p : List Int} (h : inB bs p) : ∀ b ∈ bs, b.1 ≤ b.2 := by
  unfold inB at h
  induction h with
  | nil => simp
  | cons a _ ih =>
    intro b hb
    rcases List.mem_cons.mp hb with rfl | hb
    · omega
    · exact ih b hb
theorem WfT.tree {h : Ho} (H : House h) {t : Tr} (w : WfT h.d h.ts t) : Tree h t where
  sub := fun p u hu => by
    obtain ⟨ts', a1, a2, a3⟩ := w.sub p u hu
    have hl := H.len
    have nd := a1.nd
    obtain ⟨x0, hx0⟩ := List.exists_mem_of_ne_nil _ a1.ne
    refine ⟨⟨fun z => ?_, ?_, nd.bl, inB_ord (nd.ib x0 hx0), fun m hm => ?_⟩, by omega⟩
    · have := nd.pm.length_eq
      rw [z, List.length_map] at this
      exact a1.ne (List.eq_nil_of_length_eq_zero this.symm)
    · rw [nd.pm.length_eq, List.length_map]
      omega
    · obtain ⟨x, hx, e⟩ := List.mem_map.mp (nd.pm.mem_iff.mp hm)
      exact ⟨x, a2 x hx, e, nd.ib x hx⟩
  root := w.nd.pm

/-! ### a tree grown -/
def evT {α : Type} : List α → List α
  | [] => []
  | [x] => [x]
  | x :: _ :: r => x :: evT r
def odT {α : Type} : List α → List α
  | [] => []
  | _ :: r => evT r
theorem ev_map {α : Type} (f : α → PyData) : ∀ l : List α, evens (l.map f) = (evT l).map f
  | [] => rfl
  | [_] => rfl
  | x :: y :: r => by
    have := ev_map f r
    simp only [List.map_cons, evens, evT] at this ⊢
    rw [this]
theorem od_map {α : Type} (f : α → PyData) : ∀ l : List α, odds (l.map f) = (odT l).map f
  | [] => rfl
  | x :: r => by
    simp only [List.map_cons, odds, odT]
    exact ev_map f r
theorem oe_perm {α : Type} : ∀ l : List α, (odT l ++ evT l).Perm l
  | [] => .nil
  | [x] => List.Perm.refl _
  | [x, y] => List.Perm.swap _ _ _
  | x :: y :: z :: r => by
    have ih := oe_perm (z :: r)
    have e1 : odT (x :: y :: z :: r) = y :: odT (z :: r) := by
      cases r <;> rfl
    have e2 : evT (x :: y :: z :: r) = x :: evT (z :: r) := rfl
    rw [e1, e2, List.cons_append]
    refine (List.Perm.cons y List.perm_middle).trans ?_
    refine (List.Perm.swap x y _).trans ?_
    exact (ih.cons y).cons x
def S__law_grown (k : Nat) : DF := fun vs P => ∃ (d : Nat) (ts : List Th) (tn : Int), vs = [.rng, .d (.int d), .l (ts.map eTh), .d (.int tn)] ∧ 1 ≤ d ∧ d ≤ 4 ∧ ts ≠ [] ∧ ts.length ≤ k ∧ k ≤ 100 ∧ (∀ x ∈ ts, x.p.length = d) ∧ ∀ t : Tr, WfT d ts t → P (.d (eTr t))
theorem byL_Th {i : Nat} {x : Th} (h : i < x.p.length) : byL (i : Int) (eTh x) = .tuple [.int (x.p.getD i 0), .int x.n] := by
  have e : x.p.getD i 0 = x.p[i] := by rw [List.getD_eq_getElem?_getD, List.getElem?_eq_getElem h]; rfl
  simp only [byL, eTh, eNs, at_enc h, e]
@[simp] theorem ap_sl2 {e : Sl} {P : Val → Prop} {a : DE} {odd : Bool} : dSl2 odd a e P = a e fun x => ∃ xs, x.lst = some xs ∧ xs.length ≤ 100000 ∧ P (.o (if odd then odds xs else evens xs)) := rfl
theorem law__law_grown (k : Nat) (hk : k ≤ 99) : ∀ vs P, S__law_grown (k + 1) vs P → defD 10 (b__law_grown S__law_bounds S__law_pick (S__law_grown k)) vs P := by
  rintro vs P ⟨d, ts, tn, rfl, hd1, hd4, hne, hz, _, hpl, hp⟩
  have hzp := List.length_pos_iff.mpr hne
  have bnds : ∀ Q : Val → Prop, (∀ bs : Bs, Nd d ts [] bs ∨ (bs.length = d ∧ ∀ x ∈ ts, inB bs x.p) → Q (.d (eBs bs))) → S__law_bounds [.l (ts.map eTh)] Q := fun Q hQ =>
    ⟨ts, d, rfl, hne, by omega, by omega, hpl, fun bs h1 h2 => hQ bs (.inr ⟨h1, h2⟩)⟩
  simp [b__law_grown, startD]
  refine ⟨by omega, ?_⟩
  refine lc_map _ (fun x => .int x.n) _ _ (fun x hx N acc h1 => ?_) ?_
  · simpa [eTh] using h1
  have e1 : (ts.map fun x => PyData.int x.n) = (ts.map (·.n)).map .int := by rw [List.map_map]; rfl
  have s1 := ints_sortable (ts.map (·.n))
  rw [e1]
  simp only [List.nil_append, f_sorted, lst_o, Option.some.injEq, exists_eq_left', ints_alike, s1, true_and, List.length_map, srtI_map, f_tuple, own_d, fz_d]
  refine ⟨by omega, ints_depth _, ?_⟩
  rw [← eNs]
  have pm : (srtI (ts.map (·.n))).Perm (ts.map (·.n)) := srtI_perm _
  generalize srtI (ts.map (·.n)) = ns at *
  try simp
  by_cases h1 : ts.length = 1
  · simp [h1]
    refine bnds _ fun bs hb => ?_
    simp
    rcases hb with hb | hb
    · exact absurd hb.pm.length_eq (by simp; omega)
    · exact hp (.leaf ns bs) (.leaf h1 ⟨pm, hb.1, hb.2⟩)
  · have h1' : ¬ (ts.length : Int) = 1 := by omega
    simp [h1']
    refine ⟨by omega, ?_⟩
    refine pk (by omega) (by omega) fun r1 h10 h11 => ?_
    simp
    refine pk (by decide) (by decide) fun r h0 h1 => ?_
    simp
    refine pick_at h0 (by simpa using h1) fun v hv => ?_
    obtain ⟨i, rfl, hi⟩ : ∃ i : Nat, v = .int i ∧ i < d := by
      have hf0 : 0 ≤ tn.fmod d := by
        rw [Int.fmod_eq_emod_of_nonneg _ (by omega)]
        exact Int.emod_nonneg _ (by omega)
      have hf1 : tn.fmod d < d := by
        rw [Int.fmod_eq_emod_of_nonneg _ (by omega)]
        exact Int.emod_lt_of_pos _ (by omega)
      simp at hv
      rcases hv with rfl | rfl
      · exact ⟨(tn.fmod d).toNat, by rw [Int.toNat_of_nonneg hf0], by omega⟩
      · exact ⟨r1.toNat, by rw [Int.toNat_of_nonneg h10], by omega⟩
    have hil : ∀ x ∈ ts, i < x.p.length := fun x hx => by rw [hpl x hx]; exact hi
    simp [dSortL]
    refine ⟨by omega, fun x hx => ⟨_, _, _, _, rfl, at_enc (hil x hx)⟩, ?_, fun x hx => ?_, ?_⟩
    · intro d hd d' hd'
      obtain ⟨x, hx, rfl⟩ := List.mem_map.mp hd
      obtain ⟨y, hy, rfl⟩ := List.mem_map.mp hd'
      rw [Function.comp_apply, Function.comp_apply, byL_Th (hil x hx), byL_Th (hil y hy)]
      exact alike_K (a := (x.p.getD i 0, x.n)) (b := (y.p.getD i 0, y.n))
    · rw [byL_Th (hil x hx)]
      exact Nat.le_trans (depth_K (a := (x.p.getD i 0, x.n))) (by omega)
    · rw [map_msort]
      have pr : (ts.mergeSort fun a b => PySem.W.dataLe false (byL (i : Int)) (eTh a) (eTh b)).Perm ts := List.mergeSort_perm _ _
      generalize (ts.mergeSort fun a b => PySem.W.dataLe false (byL (i : Int)) (eTh a) (eTh b)) = row at *
      have hrl : row.length = ts.length := pr.length_eq
      -- the row, in any order
      have fin : ∀ (row : List Th), row.Perm ts → sSeq (sSetF (dOp Bx.rIx (dLst (dCons (oDiv (oAdd (dF fLen (dCons (dVar 6) (dNil))) (dC (.int 1))) (dC (.int 2))) (dCons (oAdd (dC (.int 1)) (dCall S__law_pick (dCons (dVar 0) (dCons (oSub (dF fLen (dCons (dVar 6) (dNil))) (dC (.int 1))) (dNil))))) (dNil)))) (dCall S__law_pick (dCons (dVar 0) (dCons (dC (.int 2)) (dNil))))) 7) (sSeq (sSetF (dCall (S__law_grown k) (dCons (dVar 0) (dCons (dVar 1) (dCons (dSlL (dVar 6) (doN) (doS (dVar 7))) (dCons (oAdd (dVar 3) (dC (.int 1))) (dNil)))))) 8) (sRet (dTup (dCons (dVar 4) (dCons (dCall S__law_bounds (dCons (dVar 2) (dNil))) (dCons (dVar 8) (dCons (dCall (S__law_grown k) (dCons (dVar 0) (dCons (dVar 1) (dCons (dSlL (dVar 6) (doS (dVar 7)) (doN)) (dCons (oAdd (dVar 3) (dC (.int 1))) (dNil)))))) (dNil))))))))
          { nx := fun _ => P (.d .none), rt := P } [some .rng, some (.d (.int d)), some (.l (ts.map eTh)), some (.d (.int tn)), some (.d (eNs ns)), some (.d (.int i)), some (.l (row.map eTh)), none, none, none] := by
        intro row pr
        have hrl : row.length = ts.length := pr.length_eq
        have cd : ∀ x : Int, L2.CDivN x 2 := fun x => ⟨by decide, by decide⟩
        simp [cd]
        refine pk (by omega) (by omega) fun r1 h10 h11 => ?_
        simp
        refine pk (by decide) (by decide) fun r h0 h1 => ?_
        simp
        refine pick_at h0 (by simpa using h1) fun v hv => ?_
        obtain ⟨c, rfl, hc1, hc2⟩ : ∃ c : Nat, v = .int c ∧ 1 ≤ c ∧ c + 1 ≤ ts.length := by
          simp at hv
          rcases hv with rfl | rfl
          · have e : ((row.length : Int) + 1).fdiv 2 = (((row.length + 1) / 2 : Nat) : Int) := by
              rw [Int.fdiv_eq_ediv_of_nonneg _ (by decide)]
              omega
            exact ⟨(row.length + 1) / 2, by rw [e], by omega, by omega⟩
          · exact ⟨(1 + r1).toNat, by rw [Int.toNat_of_nonneg (by omega)], by omega, by omega⟩
        simp [cut_to, cut_from]
        have m1 : ∀ x ∈ row.take c, x ∈ ts := fun x hx => pr.mem_iff.mp (List.mem_of_mem_take hx)
        have m2 : ∀ x ∈ row.drop c, x ∈ ts := fun x hx => pr.mem_iff.mp (List.mem_of_mem_drop hx)
        have l1 : (row.take c).length = c := by rw [List.length_take]; omega
        have l2 : (row.drop c).length = ts.length - c := by rw [List.length_drop]; omega
        have n1 : row.take c ≠ [] := fun z => by rw [z] at l1; simp at l1; omega
        have n2 : row.drop c ≠ [] := fun z => by rw [z] at l2; simp at l2; omega
        refine ⟨d, row.take c, tn + 1, by rw [List.map_take], hd1, hd4, n1, by omega, by omega, fun x hx => hpl x (m1 x hx), fun tl wl => ?_⟩
        simp
        refine bnds _ fun bs hb => ?_
        rcases hb with hb | hb
        · exact absurd hb.pm.length_eq (by simp; omega)
        · refine ⟨d, row.drop c, tn + 1, by rw [List.map_drop], hd1, hd4, n2, by omega, by omega, fun x hx => hpl x (m2 x hx), fun tr wr => ?_⟩
          simp
          exact hp (.node ns bs tl tr) (.node ⟨pm, hb.1, hb.2⟩ (by rw [List.take_append_drop]; exact pr) n1 n2 wl wr)
      try simp
      refine pk (by decide) (by decide) fun r h0 h1 => ?_
      try simp
      by_cases hr : r = 0
      · simp [hr]
        rw [od_map, ev_map]
        have pe := oe_perm row
        refine ⟨by omega, ?_⟩
        have hl := pe.length_eq
        rw [List.length_append] at hl
        refine ⟨by simp; omega, ?_⟩
        rw [← List.map_append]
        simpa using fin _ (pe.trans pr)
      · simp [hr]
        simpa [hrl] using fin _ pr
def S__law_tree : DF := fun vs P => ∃ (h : Ho), vs = [.rng, .d (eHo h)] ∧ House h ∧ (h.ts = [] → P (.d .none)) ∧ (h.ts ≠ [] → ∀ t, Tree h t → WfT h.d h.ts t → P (.d (eTr t)))
theorem law__law_tree : ∀ vs P, S__law_tree vs P → defD 2 (b__law_tree (S__law_grown 30)) vs P := by
  rintro vs P ⟨h, rfl, H, h0, h1⟩
  simp [b__law_tree, startD, eHo]
  refine ⟨.inr (by simp [PyData.depth, PyData.depthAll]), ?_⟩
  by_cases he : h.ts = []
  · rw [if_pos (by rw [he]; rfl)]
    exact h0 he
  · rw [if_neg]
    · refine ⟨h.d, h.ts, 0, by simp, H.d1, H.d4, he, H.len, by omega, H.pl, fun t w => h1 he t (w.tree H) w⟩
    · cases hh : h.ts with
      | nil => exact absurd hh he
      | cons a b => simp
end Bx
/-! Mx11: parts drawn, covers and papers right -/
namespace Bx
open PySem
def S__law_parted (k : Nat) : DF := fun vs P => ∃ (d : Nat) (ts : List Th) (t : Tr) (pl : Pl) (p : List Bool) (often : Int), vs = [.rng, .d (eTr t), .d (ePl pl), .d (ePath p), .d (.int often)] ∧ WfT d ts t ∧ ts.length ≤ k ∧ k ≤ 100 ∧ pl.length = d ∧ 1 ≤ d ∧ d ≤ 4 ∧ p.length + ts.length ≤ 200 ∧
  ∀ qs : List Pt, qs.length ≤ ts.length → (∀ q ∈ qs, okPt d q ∧ ∃ p' u, q.p = p ++ p' ∧ t.at p' = some u) → P (.o (qs.map ePt))
theorem fd2 (k : Nat) : (k : Int).fdiv 2 = ((k / 2 : Nat) : Int) := by
  rw [Int.fdiv_eq_ediv_of_nonneg _ (by decide)]
  omega
theorem fm2 (k : Nat) : PyData.int ((k : Int).fmod 2) = eStep (decide (k % 2 = 1)) := by
  rw [Int.fmod_eq_emod_of_nonneg _ (by decide)]
  unfold eStep
  by_cases h : k % 2 = 1
  · rw [decide_eq_true h]
    have : (k : Int) % 2 = 1 := by omega
    rw [this]
    rfl
  · rw [decide_eq_false h]
    have : (k : Int) % 2 = 0 := by omega
    rw [this]
    rfl
theorem tr_nil (t : Tr) : t.at [] = some t := by cases t <;> simp [Tr.at]
theorem law__law_parted (k : Nat) (hk : k ≤ 99) : ∀ vs P, S__law_parted (k + 1) vs P → defD 8 (b__law_parted S__law_pick (S__law_parted k) S__law_beyond) vs P := by
  rintro vs P ⟨d, ts, t, pl, p, often, rfl, w, hz, _, hpl, hd1, hd4, hpz, hp⟩
  obtain ⟨ta, tb, ht⟩ := eTr_tup t
  have hlen := List.length_pos_iff.mpr w.ne
  have hbl := w.nd.bl
  have cd : ∀ x : Int, L2.CDivN x 2 := fun x => ⟨by decide, by decide⟩
  have m2 : ∀ x : Int, L2.CMul 2 x := fun x => .inl ⟨by decide, by decide⟩
  have fin : sSeq (sSetF (dLc (ciR (oMul (dC (.int 2)) (dF fLen (dCons (dVar 2) (dNil))))) (.n 7) (dT (dCall S__law_beyond (dCons (dOp Bx.rIx (dVar 1) (dC (.int 1))) (dCons (dVar 2) (dCons (oDiv (dVar 7) (dC (.int 2))) (dCons (oMod (dVar 7) (dC (.int 2))) (dNil))))))) (dVar 7) [7]) 6) (sSeq (sIf (dT (dOp (Bx.rEq false) (dCall S__law_pick (dCons (dVar 0) (dCons (dC (.int 25)) (dNil)))) (dC (.int 0)))) (sSetF (dSlL (dLst (dCons (dCall S__law_pick (dCons (dVar 0) (dCons (oMul (dC (.int 2)) (dF fLen (dCons (dVar 2) (dNil)))) (dNil)))) (dNil))) (doN) (doS (dCall S__law_pick (dCons (dVar 0) (dCons (dC (.int 2)) (dNil)))))) 6) (sNext)) (sSeq (sIf (dT (dOp (Bx.rEq false) (dVar 6) (dLst (dNil)))) (sRet (dLst (dCons (dTup (dCons (dVar 3) (dCons (dC (.str "in")) (dNil)))) (dNil)))) (sNext)) (sSeq (sSetF (dOp Bx.rIx (dVar 6) (dCall S__law_pick (dCons (dVar 0) (dCons (dF fLen (dCons (dVar 6) (dNil))) (dNil))))) 7) (sRet (dLst (dCons (dTup (dCons (dVar 3) (dCons (dC (.str "out")) (dCons (oDiv (dVar 7) (dC (.int 2))) (dCons (oMod (dVar 7) (dC (.int 2))) (dNil)))))) (dNil)))))))
      { nx := fun _ => P (.d .none), rt := P } [some .rng, some (.d (eTr t)), some (.d (ePl pl)), some (.d (ePath p)), some (.d (.int often)), none, none, none] := by
    have last : ∀ ks : List Nat, (∀ k ∈ ks, k < 2 * d) → ks.length ≤ 1000 → sSeq (sIf (dT (dOp (Bx.rEq false) (dVar 6) (dLst (dNil)))) (sRet (dLst (dCons (dTup (dCons (dVar 3) (dCons (dC (.str "in")) (dNil)))) (dNil)))) (sNext)) (sSeq (sSetF (dOp Bx.rIx (dVar 6) (dCall S__law_pick (dCons (dVar 0) (dCons (dF fLen (dCons (dVar 6) (dNil))) (dNil))))) 7) (sRet (dLst (dCons (dTup (dCons (dVar 3) (dCons (dC (.str "out")) (dCons (oDiv (dVar 7) (dC (.int 2))) (dCons (oMod (dVar 7) (dC (.int 2))) (dNil)))))) (dNil)))))
        { nx := fun _ => P (.d .none), rt := P } [some .rng, some (.d (eTr t)), some (.d (ePl pl)), some (.d (ePath p)), some (.d (.int often)), none, some (.l (ks.map eI)), none] := by
      intro ks hks hkz
      simp
      refine ⟨.inr (by simp [PyData.depth, PyData.depthAll]), ?_⟩
      cases ks with
      | nil =>
        simp
        have := hp [⟨p, .inn⟩] (by simp; omega) (fun q hq => by rw [List.mem_singleton.mp hq]; exact ⟨trivial, [], t, (List.append_nil _).symm, tr_nil t⟩)
        simpa [ePt] using this
      | cons a r =>
        simp
        simp at hkz
        refine pk (by omega) (by omega) fun i h0 h1 => ?_
        simp
        refine pick_at h0 (by simpa using h1) fun v hv => ?_
        obtain ⟨c, hc, rfl⟩ : ∃ c : Nat, c < 2 * d ∧ v = eI c := by
          rcases List.mem_cons.mp hv with rfl | hv
          · exact ⟨a, hks a (by simp), rfl⟩
          · obtain ⟨c, hc, rfl⟩ := List.mem_map.mp hv
            exact ⟨c, hks c (by simp [hc]), rfl⟩
        simp [eI, cd]
        have := hp [⟨p, .out (c / 2) (decide (c % 2 = 1))⟩] (by simp; omega) (fun q hq => by rw [List.mem_singleton.mp hq]; exact ⟨(by show c / 2 < d; omega), [], t, (List.append_nil _).symm, tr_nil t⟩)
        rw [fd2, fm2]
        simpa [ePt] using this
    simp [m2, ePl]
    refine ⟨by omega, by omega, ?_⟩
    refine lc_filter (α := Nat) _ (fun k => liesOut t.bs pl (k / 2) (decide (k % 2 = 1))) eI _ _ (fun x hx N acc h1 h2 => ?_) ?_
    · have hx' : x < 2 * d := by
        have := List.mem_range.mp hx
        omega
      simp [ht, cd]
      refine ⟨t.bs, pl, x / 2, decide (x % 2 = 1), by rw [fd2, fm2]; rfl, by omega, by omega, ?_⟩
      simp
      cases hf : liesOut t.bs pl (x / 2) (decide (x % 2 = 1)) with
      | true => simpa [eI] using h1 hf
      | false => simpa using h2 hf
    · simp
      refine pk (by decide) (by decide) fun r h0 h1 => ?_
      simp
      have lt : ∀ k ∈ ((List.range (2 * (pl.length : Int)).toNat).filter fun k => liesOut t.bs pl (k / 2) (decide (k % 2 = 1))), k < 2 * d := fun k hk => by
        have := List.mem_range.mp (List.mem_filter.mp hk).1
        omega
      have ln : ((List.range (2 * (pl.length : Int)).toNat).filter fun k => liesOut t.bs pl (k / 2) (decide (k % 2 = 1))).length ≤ 1000 := by
        refine Nat.le_trans (List.length_filter_le _ _) ?_
        rw [List.length_range]
        omega
      by_cases hr : r = 0
      · simp [hr]
        refine pk (by omega) (by omega) fun r1 h10 h11 => ?_
        simp
        refine pk (by decide) (by decide) fun r2 h20 h21 => ?_
        simp
        obtain ⟨c, hc⟩ : ∃ c : Nat, r1 = c := ⟨r1.toNat, by omega⟩
        subst hc
        have h2c : r2 = 0 ∨ r2 = 1 := by omega
        rcases h2c with rfl | rfl
        · have := last [] (by simp) (by simp)
          rw [show cut [PyData.int (c : Int)] none (some 0) = [] from cut_to (k := 0)]
          simpa [ePl] using this
        · have := last [c] (by simp; omega) (by simp)
          rw [show cut [PyData.int (c : Int)] none (some 1) = [PyData.int c] from cut_to (k := 1)]
          simpa [ePl, eI] using this
      · simp [hr]
        simpa [ePl] using last _ lt ln
  cases w with
  | leaf h1 n1 =>
    rename_i ns bs
    simp only [b__law_parted, df_ap]
    simpa [startD, eTr] using fin
  | node n1 pm h1 h2 wl wr =>
    rename_i ns bs ts1 ts2 l r
    have hl := pm.length_eq
    rw [List.length_append] at hl
    have p1 := List.length_pos_iff.mpr h1
    have p2 := List.length_pos_iff.mpr h2
    simp only [b__law_parted, df_ap, st_seq, st_if, ap_and, ap_T, ap_isN, ap_op, ap_var, ap_c, ap_call, ap_cons, ap_nil]
    show _
    simp [startD]
    have hpath : ∀ b : Bool, PyData.tuple (p.map eStep ++ [eStep b]) = ePath (p ++ [b]) := fun b => by simp [ePath]
    have e0 : eStep false = .int 0 := rfl
    have e1 : eStep true = .int 1 := rfl
    simp [eTr]
    refine pk (by decide) (by decide) fun x h0 h1 => ?_
    simp
    by_cases hx : x < often
    · simp [hx]
      simp [ePath]
      refine ⟨by omega, ?_⟩
      rw [← e0, hpath]
      refine ⟨d, ts1, l, pl, p ++ [false], often, rfl, wl, by omega, by omega, hpl, hd1, hd4, by simp; omega, fun ql hql hql2 => ?_⟩
      simp
      refine ⟨by omega, ?_⟩
      rw [← e1, hpath]
      refine ⟨d, ts2, r, pl, p ++ [true], often, rfl, wr, by omega, by omega, hpl, hd1, hd4, by simp; omega, fun qr hqr hqr2 => ?_⟩
      simp
      refine ⟨by omega, ?_⟩
      rw [← List.map_append]
      refine hp (ql ++ qr) (by simp; omega) fun q hq => ?_
      rcases List.mem_append.mp hq with hq | hq
      · obtain ⟨g1, p', u, g2, g3⟩ := hql2 q hq
        exact ⟨g1, false :: p', u, by rw [g2]; simp, by simpa [Tr.at] using g3⟩
      · obtain ⟨g1, p', u, g2, g3⟩ := hqr2 q hq
        exact ⟨g1, true :: p', u, by rw [g2]; simp, by simpa [Tr.at] using g3⟩
    · simp [hx]
      simpa [eTr] using fin
end Bx
/-! Mx12: covers and papers right -/
namespace Bx
open PySem
theorem zip_at {α β : Type} {f : α → β → Bool} {xs : List α} {ys : List β} (h : (List.zipWith f xs ys).all id = true) {i : Nat} {a : α} {b : β} (ha : xs[i]? = some a) (hb : ys[i]? = some b) : f a b = true := by
  have := List.all_eq_true.mp h (f a b) (List.mem_of_getElem? (i := i) (by rw [List.getElem?_zipWith, ha, hb]))
  exact this
theorem f2_at {α β : Type} {R : α → β → Prop} {xs : List α} {ys : List β} (h : F2 R xs ys) : ∀ {i : Nat} {a : α}, xs[i]? = some a → ∃ b, ys[i]? = some b ∧ R a b := by
  induction h with
  | nil => intro i a h; simp at h
  | cons r _ ih =>
    intro i a h
    cases i with
    | zero => simp at h; subst h; exact ⟨_, rfl, r⟩
    | succ i =>
      obtain ⟨b, h1, h2⟩ := ih (by simpa using h)
      exact ⟨b, by simpa using h1, h2⟩
theorem out_no {bs : Bs} {pl : Pl} {p : List Int} {i : Nat} {s : Bool} (h : liesOut bs pl i s = true) (hb : inB bs p) (hp : inPl (p.map fun n => (n, n)) pl = true) : False := by
  unfold liesOut at h
  cases hq : pl[i]? with
  | none => rw [hq] at h; simp at h
  | some q =>
    cases hbb : bs[i]? with
    | none => rw [hq, hbb] at h; simp at h
    | some b =>
      rw [hq, hbb] at h
      obtain ⟨a, ha, h1, h2⟩ := f2_at hb hbb
      have h3 := zip_at hp (i := i) (a := (a, a)) (b := q) (by rw [List.getElem?_map, ha]; rfl) hq
      obtain ⟨q1, q2⟩ := q
      simp at h
      unfold inP at h3
      simp at h3
      obtain ⟨h4, h5⟩ := h3
      rcases h with ⟨rfl, rfl⟩ | h
      · simp at h4 h5
        omega
      · cases s with
        | false =>
          cases q1 with
          | none => simp at h
          | some l => simp at h h4; omega
        | true =>
          cases q2 with
          | none => simp at h
          | some l => simp at h h5; omega
theorem took_all {h : Ho} {t : Tr} {b : Box} {qs : List Pt} (H : House h) (T : Tree h t) (Q : Parts h t qs) (hb : b.length = h.d) (hs : showsB t (plBox b) qs = true) {x : Th} (hx : x ∈ h.ts) (hf : fitsB b x.p = true) : tookB t qs x.n = true := by
  unfold showsB at hs
  rw [Bool.and_eq_true] at hs
  obtain ⟨h1, h2⟩ := hs
  have e : srtI ((qs.map (atq t)).flatMap Tr.ns) = t.ns := of_decide_eq_true h2
  have hm : x.n ∈ (qs.map (atq t)).flatMap Tr.ns := by
    refine (srtI_perm _).mem_iff.mp ?_
    rw [e]
    exact T.root.mem_iff.mpr (List.mem_map_of_mem hx)
  obtain ⟨u, hu, hxu⟩ := List.mem_flatMap.mp hm
  obtain ⟨q, hq, rfl⟩ := List.mem_map.mp hu
  have hq1 := List.all_eq_true.mp h1 q hq
  obtain ⟨a1, a2, a3, a4⟩ := Q.at T hq
  have hpl := H.pl x hx
  have hd1 := H.d1
  obtain ⟨p, k⟩ := q
  cases k with
  | inn =>
    refine List.any_eq_true.mpr ⟨_, hq, ?_⟩
    exact List.any_eq_true.mpr ⟨_, hxu, decide_eq_true rfl⟩
  | far => simp [isIn, isOut] at hq1
  | out i s =>
    simp [isIn, isOut] at hq1
    obtain ⟨y, hy, e2, hib⟩ := a3.nm _ hxu
    have := nd_inj H hy hx e2
    subst this
    exact (out_no hq1 hib (by rw [fits_in b y.p (by omega) (fun z => by rw [z] at hpl; simp at hpl; omega)]; exact hf)).elim
@[simp] theorem eqv_b {a b : Bool} : PyData.eqv (.bool a) (.bool b) = decide (a = b) := by
  cases a <;> cases b <;> simp [PyData.eqv]
theorem isi_bool {a : Bool} : isiB (.bool a) "bool" = true := by
  show isiS "bool" "bool" = true
  decide +kernel
def S__law_cover_right : DF := fun vs P => ∃ (h : Ho) (t : Tr) (b : Box) (qs : List Pt), vs = [.d (eHo h), .d (eTr t), .d (eBox b), .d (ePl (plBox b)), .d (.tuple (qs.map ePt))] ∧ House h ∧ Tree h t ∧ Parts h t qs ∧ b.length = h.d ∧ P (.d (.bool true))
theorem law__law_cover_right : ∀ vs P, S__law_cover_right vs P → defD 13 (b__law_cover_right S_shows_cover S__law_is_cover S__law_fits S_by_cover) vs P := by
  rintro vs P ⟨h, t, b, qs, rfl, H, T, Q, hb, hp⟩
  have hd1 := H.d1
  have hd4 := H.d4
  have hln := H.len
  simp [b__law_cover_right, startD]
  refine ⟨t, eHo h, b, qs, rfl, by omega, by rw [hb]; exact Q.ok T, ?_⟩
  simp [isi_bool]
  refine ⟨h, t, plBox b, qs, rfl, H, T, Q, by rw [plBox_len, hb], ?_⟩
  simp
  cases hs : showsB t (plBox b) qs with
  | false => simpa using hp
  | true =>
    simp [eHo]
    have F : ∀ x ∈ h.ts, S__law_fits [.d (ePl (plBox b)), .d (eNs x.p)] = S__law_fits [.d (ePl (plBox b)), .d (eNs x.p)] := fun _ _ => rfl
    have fit : ∀ x ∈ h.ts, ∀ K : Val → Prop, K (.d (.bool (fitsB b x.p))) → S__law_fits [.d (ePl (plBox b)), .d (eNs x.p)] K := fun x hx K hK => by
      have hpl := H.pl x hx
      exact ⟨b, x.p, rfl, by omega, fun z => by rw [z] at hpl; simp at hpl; omega, by omega, hK⟩
    refine ⟨by omega, ?_⟩
    refine lc_filter _ (fun x => fitsB b x.p) (byP ∘ eTh) _ _ (fun x hx N acc h1 h2 => ?_) ?_
    · simp [eTh]
      refine fit x hx _ ?_
      simp
      cases hf : fitsB b x.p with
      | true => simpa [byP, eTh] using h1 hf
      | false => simpa using h2 hf
    · have fl : (h.ts.filter fun x => fitsB b x.p).length ≤ 1000 := Nat.le_trans (List.length_filter_le _ _) (by omega)
      have ef : ((h.ts.filter fun x => tookB t qs x.n).filter fun x => fitsB b x.p) = h.ts.filter fun x => fitsB b x.p := by
        rw [List.filter_filter]
        apply List.filter_congr
        intro x hx
        cases hf : fitsB b x.p with
        | true => rw [took_all H T Q hb hs hx hf]; rfl
        | false => rfl
      have a1 := allAlike_P (h.ts.filter fun x => fitsB b x.p)
      rw [List.map_map] at a1
      have a2 : PySem.W.Sortable ((h.ts.filter fun x => fitsB b x.p).map (byP ∘ eTh)) := .inl fun d hd => by
        obtain ⟨x, _, rfl⟩ := List.mem_map.mp hd
        exact ⟨_, _, rfl⟩
      have a3 : ∀ d ∈ (h.ts.filter fun x => fitsB b x.p).map (byP ∘ eTh), d.depth ≤ 50 := fun d hd => by
        obtain ⟨x, _, rfl⟩ := List.mem_map.mp hd
        exact Nat.le_trans (depth_P x) (by omega)
      have es : ((h.ts.filter fun x => fitsB b x.p).map (byP ∘ eTh)).mergeSort (PySem.W.dataLe false id) = ((h.ts.filter fun x => fitsB b x.p).mergeSort leP).map (byP ∘ eTh) := map_msort _
      simp only [List.nil_append, f_sorted, lst_o, Option.some.injEq, exists_eq_left', a1, a2, es, true_and, List.length_map, own_o, fz_o]
      refine ⟨by omega, a3, ?_⟩
      try simp
      refine ⟨by omega, ?_⟩
      refine lc_filter _ (fun x => fitsB b x.p) (fun x => .int x.w) _ _ (fun x hx N acc h1 h2 => ?_) ?_
      · simp [eTh]
        refine fit x hx _ ?_
        simp
        cases hf : fitsB b x.p with
        | true => simpa using h1 hf
        | false => simpa using h2 hf
      · try simp
        have ew : [PyData.str "count", .str "sum", .str "all"] = [Wd.count, .sum, .all].map fun w => PyData.str w.str := rfl
        rw [ew]
        refine lc_map (α := Wd) _ (fun w => ansOf (h.ts.filter fun x => fitsB b x.p) w) _ _ (fun wd hwd N acc h1 => ?_) ?_
        · simp
          refine ⟨h, t, b, qs, wd, eBox b, by simp [eHo], by omega, by omega, by rw [hb]; exact Q.ok T, ?_⟩
          rw [ef]
          simpa using h1
        · simp
          generalize hF : (h.ts.filter fun x => fitsB b x.p) = F at *
          refine f_sum (ns := F.map fun x => x.w) (by simp) ?_
          refine ⟨by omega, ?_⟩
          refine lc_map (α := Th) _ (fun x => .int x.n) _ _ (fun x hx N acc h1 => ?_) ?_
          · simp [byP, eTh]
            exact h1
          · simp
            refine ⟨.inl ?_, ?_⟩
            · refine Nat.le_trans (depth_lst (k := 1) fun x hx => ?_) (by omega)
              simp at hx
              rcases hx with rfl | rfl | rfl
              · simp [ansOf]
              · simp [ansOf]
              · exact depth_Ns
            · have e2 : (F.mergeSort leP).map (fun x => PyData.int x.n) = ((F.mergeSort leP).map (·.n)).map .int := by rw [List.map_map]; rfl
              simp [ansOf]
              have e4 : PyData.eqvAll ((F.mergeSort leP).map fun x => PyData.int x.n) ((F.mergeSort leP).map fun x => PyData.int x.n) = true := by
                rw [e2, eqv_Ns]
                simp
              simpa [eNs, Function.comp_def, e4] using hp
/-- a cut of typed rows -/
theorem cut_map {α : Type} {f : α → PyData} (xs : List α) (lo hi : Option Int) : ∃ ys : List α, cut (xs.map f) lo hi = ys.map f ∧ (∀ y ∈ ys, y ∈ xs) ∧ ys.length ≤ xs.length := by
  unfold cut
  rw [List.length_map, ← List.map_drop, ← List.map_take]
  exact ⟨_, rfl, fun y hy => List.mem_of_mem_drop (List.mem_of_mem_take hy), by rw [List.length_take, List.length_drop]; omega⟩
def S__law_drawn_right : DF := fun vs P => ∃ (h : Ho) (t : Tr) (b : Box) (qs : List Pt), vs = [.rng, .d (eHo h), .d (eTr t), .d (eBox b), .d (ePl (plBox b)), .d (.tuple (qs.map ePt))] ∧ House h ∧ Tree h t ∧ Parts h t qs ∧ b.length = h.d ∧ P (.d (.bool true))
theorem law__law_drawn_right : ∀ vs P, S__law_drawn_right vs P → defD 17 (b__law_drawn_right S__law_kind S__law_ranked S__law_pick S__law_at S_shows_drawn S__law_is_paper) vs P := by
  rintro vs P ⟨h, t, b, qs, rfl, H, T, Q, hb, hp⟩
  have hd1 := H.d1
  have hd4 := H.d4
  have n1 : (("far" : Str) = "in") = False := eq_false (by decide +kernel)
  simp [b__law_drawn_right, startD]
  refine ⟨h, rfl, H, fun k => ?_⟩
  simp
  refine ⟨h, b, k, rfl, H, hb, fun us hus hu => ?_⟩
  simp
  refine pk (by omega) (by omega) fun m hm0 hm1 => ?_
  try simp
  refine for_indT _ (fun rest e => ∃ (dn : List Pt) (x y z : Option Val), e = [some .rng, some (.d (eHo h)), some (.d (eTr t)), some (.d (eBox b)), some (.d (ePl (plBox b))), some (.d (.tuple (qs.map ePt))), some (.d (eKi k)), some (.l (us.map fun u => .int u.n)), some (.d (.int m)), some (.o (dn.map ePt)), x, y, z, none, none, none, none] ∧
      (∀ q ∈ rest, q ∈ qs) ∧ dn.length + rest.length ≤ 100 ∧ ∀ q ∈ dn, okPt h.d q ∧ ∃ u, t.at q.p = some u) ?_ ?_ _ _ ⟨[], none, none, none, rfl, fun _ h => h, by simpa using Q.1, by simp⟩
  · rintro q rest e N ⟨dn, x, y, z, rfl, g1, g2, g3⟩ hN
    obtain ⟨a1, a2, a3, a4⟩ := Q.at T (g1 q (by simp))
    obtain ⟨ua, ub, hu'⟩ := eTr_tup (atq t q)
    simp at g2
    obtain ⟨r, hr⟩ := ePt_at1 q
    have step : ∀ (q' : Pt) (x y z : Option Val), q'.p = q.p → okPt h.d q' → N [some .rng, some (.d (eHo h)), some (.d (eTr t)), some (.d (eBox b)), some (.d (ePl (plBox b))), some (.d (.tuple (qs.map ePt))), some (.d (eKi k)), some (.l (us.map fun u => .int u.n)), some (.d (.int m)), some (.o (dn.map ePt ++ [ePt q'])), x, y, z, none, none, none, none] := fun q' x y z hq' hok =>
      hN _ ⟨dn ++ [q'], x, y, z, by simp, fun q hq => g1 q (by simp [hq]), by simp; omega, fun q2 hq2 => by
        rcases List.mem_append.mp hq2 with hq2 | hq2
        · exact g3 q2 hq2
        · rw [List.mem_singleton.mp hq2, hq']
          exact ⟨hok, _, a2⟩⟩
    obtain ⟨ys, hcut, hys, _⟩ := cut_map (f := fun u : Th => PyData.int u.n) us none (some m)
    have hflat : ∀ z ∈ ys.map (fun u : Th => PyData.int u.n), flatD z = true := fun z hz => by
      obtain ⟨u, _, rfl⟩ := List.mem_map.mp hz
      rfl
    have h0 : L2.atI ((atq t q).ns.map PyData.int) 0 = some (.int (hd0 (atq t q).ns)) := hd_at a3.ne
    obtain ⟨p, qk⟩ := q
    have okF : okPt h.d ⟨p, .far⟩ := trivial
    cases qk with
    | inn =>
      simp [ePt]
      refine ⟨t, _, p, rfl, a2, ?_⟩
      simp [hu']
      simp [eNs, h0, hcut]
      refine ⟨rfl, fun _ _ => rfl, ?_⟩
      split
      · refine ⟨by omega, ?_⟩
        split
        · simpa [ePt] using step ⟨p, .inn⟩ _ _ _ rfl a1
        · simpa [ePt] using step ⟨p, .far⟩ _ _ _ rfl okF
      · refine ⟨by omega, ?_⟩
        simpa [ePt] using step ⟨p, .far⟩ _ _ _ rfl okF
    | far =>
      simp [ePt]
      refine ⟨t, _, p, rfl, a2, ?_⟩
      simp [hu', n1]
      simp [eNs, h0, hcut]
      refine ⟨rfl, fun _ _ => rfl, ?_⟩
      split
      · refine ⟨by omega, ?_⟩
        simpa [ePt] using step ⟨p, .far⟩ _ _ _ rfl okF
      · refine ⟨by omega, ?_⟩
        simpa [ePt] using step ⟨p, .far⟩ _ _ _ rfl okF
    | out i s =>
      have n3 : (("out" : Str) = "in") = False := eq_false (by decide +kernel)
      simp [ePt]
      refine ⟨t, _, p, rfl, a2, ?_⟩
      simp [hu', n3]
      simp [eNs, h0, hcut]
      refine ⟨rfl, fun _ _ => rfl, ?_⟩
      split
      · refine ⟨by omega, ?_⟩
        simpa [ePt] using step ⟨p, .out i s⟩ _ _ _ rfl a1
      · refine ⟨by omega, ?_⟩
        simpa [ePt] using step ⟨p, .out i s⟩ _ _ _ rfl a1
  · rintro e ⟨dn, x, y, z, rfl, g1, g2, g3⟩
    simp
    obtain ⟨y1, hc1, hy1, hl1⟩ := cut_map (f := fun u : Th => PyData.int u.n) us none (some m)
    obtain ⟨y2, hc2, hy2, hl2⟩ := cut_map (f := fun u : Th => PyData.int u.n) us (some 1) (some (m + 1))
    have Qd : Parts h t dn := ⟨by simpa using g2, g3⟩
    rw [hc1, hc2]
    have ep : ∀ ys : List Th, PyData.tuple [.tuple (ys.map fun u => .int u.n), .tuple (dn.map ePt)] = ePaper ys dn := fun ys => by simp [ePaper, eNs, Function.comp_def]
    rw [ep, ep]
    have el : [ePaper y1 dn, ePaper y2 dn] = [y1, y2].map fun ys => ePaper ys dn := rfl
    rw [el]
    refine for_indT _ (fun rest e => ∃ (w a c : Option Val) (x y z v : Option Val), e = [some .rng, some (.d (eHo h)), some (.d (eTr t)), some (.d (eBox b)), some (.d (ePl (plBox b))), some (.d (.tuple (qs.map ePt))), some (.d (eKi k)), some (.l (us.map fun u => .int u.n)), some (.d (.int m)), some (.o (dn.map ePt)), x, y, z, v, w, a, c] ∧
        ∀ ys ∈ rest, ys.length ≤ 1000 ∧ ∀ u ∈ ys, u ∈ h.ts) ?_ ?_ _ _ ⟨_, _, _, _, _, _, _, rfl, ?_⟩
    · rintro ys rest e N ⟨w, a, c, x, y, z, v, rfl, g4⟩ hN
      obtain ⟨g5, g6⟩ := g4 ys (by simp)
      simp
      refine ⟨h, t, b, k, m, ys, dn, rfl, H, T, Qd, hb, g5, g6, ?_⟩
      simp
      refine ⟨h, t, plBox b, k, m, ys, dn, rfl, H, T, Qd, by rw [plBox_len, hb], g5, g6, ?_⟩
      simp [isi_bool]
      exact hN _ ⟨_, _, _, _, _, _, _, rfl, fun ys hys => g4 ys (by simp [hys])⟩
    · rintro e ⟨w, a, c, x, y, z, v, rfl, g4⟩
      simpa using hp
    · intro ys hys
      simp at hys
      rcases hys with rfl | rfl
      · exact ⟨by omega, fun u hu' => hu u (hy1 u hu')⟩
      · exact ⟨by omega, fun u hu' => hu u (hy2 u hu')⟩
end Bx
/-! B2: the rest of the law's turn; printed by gen.py -/
namespace Bx
open PySem
abbrev N_law : List Str := ["_law_script", "_law_k", "_law_left_here", "_law_house_here", "_law_tree_here", "_law_turn", "_law_box_here", "_law_plain_here", "_law_often", "_law_parts"]
def b_law_it : DE := dF fMax2 (dCons (dC (.int 1)) (dCons (dF fMin2 (dCons (dF fLen (dCons (dVar 0) (dNil))) (dCons (dC (.int 5)) (dNil)))) (dNil)))
def b_law_left : DE := dCall S__law_left (dCons (dVar 0) (dCons (dVar 1) (dNil)))
def b_law_rest : DS := sSeq (sSetF (dCall S__law_house (dCons (dVar 2) (dNil))) 3) (sSeq (sSetF (dCall S__law_tree (dCons (dVar 2) (dCons (dVar 3) (dNil)))) 4) (sFor (diR (oMul (dC (.int 4)) (dF fInt (dCons (dIsN true (dVar 4)) (dNil))))) (.n 5) (sSeq (sSetF (dCall S__law_box (dCons (dVar 2) (dCons (dVar 3) (dNil)))) 6) (sSeq (sSetF (dCall S__law_plain (dCons (dVar 6) (dNil))) 7) (sFor (diT (dTup (dCons (dC (.int 6)) (dCons (dC (.int 5)) (dCons (dC (.int 4)) (dCons (dC (.int 3)) (dNil))))))) (.n 8) (sSeq (sSetF (dF fTuple (dCons (dCall (S__law_parted 30) (dCons (dVar 2) (dCons (dVar 4) (dCons (dVar 7) (dCons (dTup (dNil)) (dCons (dVar 8) (dNil))))))) (dNil))) 9) (sSeq (sIf (dNot (dT (dCall S__law_cover_right (dCons (dVar 3) (dCons (dVar 4) (dCons (dVar 6) (dCons (dVar 7) (dCons (dVar 9) (dNil))))))))) (sRet (dC (.bool false))) (sNext)) (sIf (dNot (dT (dCall S__law_drawn_right (dCons (dVar 2) (dCons (dVar 3) (dCons (dVar 4) (dCons (dVar 6) (dCons (dVar 7) (dCons (dVar 9) (dNil)))))))))) (sRet (dC (.bool false))) (sNext)))))))))
end Bx
/-! Mx13: a turn of the law -/
namespace Bx
open PySem
theorem law_it {ns : List Int} {e : Sl} {P : Val → Prop} (h0 : e[0]? = some (some (.s ns))) (h : ∀ n : Nat, n ≤ 5 → P (.d (.int n))) : b_law_it e P := by
  simp [b_law_it, h0]
  have e1 : (if (5 : Int) < ns.length then (5 : Int) else ns.length) = ((min 5 ns.length : Nat) : Int) := by
    split <;> omega
  rw [e1]
  have e2 : (if (1 : Int) < ((min 5 ns.length : Nat) : Int) then ((min 5 ns.length : Nat) : Int) else 1) = ((max 1 (min 5 ns.length) : Nat) : Int) := by
    split <;> omega
  rw [e2]
  exact h _ (by omega)
theorem law_rest {ns : List Int} {k : Int} {B : DK} (hn : ∀ x y z w u v s, B.nx [some (.s ns), some (.d (.int k)), some .rng, x, y, z, w, u, v, s]) (x0 x1 x2 x3 x4 x5 x6 : Option Val) : b_law_rest B [some (.s ns), some (.d (.int k)), some .rng, none, none, none, none, none, none, none] := by
  simp [b_law_rest]
  refine ⟨rfl, fun h H => ?_⟩
  simp
  refine ⟨h, rfl, H, fun he => ?_, fun he t T w => ?_⟩
  · simp
    refine ⟨.inl ⟨by decide, by decide⟩, ?_⟩
    exact hn _ _ _ _ _ _ _
  · have hpl : ∀ b : Box, b.length = h.d → (plBox b).length = h.d := fun b hb => by rw [plBox_len, hb]
    have hd4 := H.d4
    have hd1 := H.d1
    have hln := H.len
    simp
    refine ⟨.inl ⟨by decide, by decide⟩, ?_⟩
    refine for_indT (α := Nat) _ (fun rest e => ∃ x z w u v : Option Val, e = [some (.s ns), some (.d (.int k)), some .rng, some (.d (eHo h)), some (.d (eTr t)), x, z, w, u, v]) ?_ ?_ _ _ ⟨none, none, none, none, none, rfl⟩
    · rintro i rest e N ⟨x, z, w', u, v, rfl⟩ hN
      simp
      refine ⟨h, rfl, H, fun b hb => ?_⟩
      simp
      refine ⟨b, rfl, by omega, ?_⟩
      simp
      have el : [PyData.int 6, .int 5, .int 4, .int 3] = [(6 : Int), 5, 4, 3].map PyData.int := rfl
      rw [el]
      refine for_indT (α := Int) _ (fun rest e => ∃ x z w u v : Option Val, e = [some (.s ns), some (.d (.int k)), some .rng, some (.d (eHo h)), some (.d (eTr t)), x, some (.d (eBox b)), some (.d (ePl (plBox b))), u, v]) ?_ ?_ _ _ ⟨_, none, none, _, _, rfl⟩
      · rintro often rest e N ⟨x, z, w', u, v, rfl⟩ hN
        simp
        refine ⟨h.d, h.ts, t, plBox b, [], often, rfl, w, hln, by omega, hpl b hb, hd1, hd4, by simp; omega, fun qs hq1 hq2 => ?_⟩
        have Q : Parts h t qs := ⟨by omega, fun q hq => by
          obtain ⟨g1, p', u, g2, g3⟩ := hq2 q hq
          exact ⟨g1, u, by rw [g2]; exact g3⟩⟩
        simp
        refine ⟨h, t, b, qs, rfl, H, T, Q, hb, ?_⟩
        simp
        refine ⟨h, t, b, qs, rfl, H, T, Q, hb, ?_⟩
        simp
        exact hN _ ⟨_, none, none, _, _, rfl⟩
      · rintro e ⟨x, z, w', u, v, rfl⟩
        exact hN _ ⟨_, _, _, _, _, rfl⟩
    · rintro e ⟨x, z, w', u, v, rfl⟩
      exact hn _ _ _ _ _ _ _
end Bx
/-! Pk: the picks, by hand -/
namespace Bx
open PySem PySem.Spec PyProof.Rows L2
open LamX (Tabs)
theorem rng_ext {ρ : Option Addr} {T : Tb} {H : Hp} {p : Addr} {vs : List V} {x y z : Int} (hp : ρ = some p) (h : H p = some (.lst vs)) : Ext ρ T H (upd H p (.lst [.int x, .int y, .int z])) where
  st := fun a o e n m => by
    rw [upd_ne fun q => n (by rw [q, hp])]
    exact e
  rg := fun a ha _ => by
    rw [hp] at ha
    cases ha
    exact ⟨x, y, z, upd_same⟩
  tb := fun t => Tabs.upd_mut t h (fun ps q => nomatch q) fun φ q => nomatch q
  fr := fun a q => by
    by_cases ha : a = p
    · rw [ha] at q
      obtain ⟨ps, z⟩ := q _ upd_same
      cases z
    · exact fun o e => q o (by rw [upd_ne ha]; exact e)
theorem ite_t {A B : Prop} {c : Bool} (h : c = true) (a : A) : if c = true then A else B := by rw [if_pos h]; exact a
theorem ite_f {A B : Prop} {c : Bool} (h : c = false) (a : B) : if c = true then A else B := by rw [if_neg (by rw [h]; exact Bool.false_ne_true)]; exact a
abbrev N__law_pick : List Str := ["_law_left_here", "_law_many", "_law_digit"]
theorem sc__law_pick : FnScope N__law_pick ["_law_left_here", "_law_many"] (defScope s__law_pick) := ⟨rfl, rfl, rfl, by decide +kernel, rfl, by decide +kernel, by decide +kernel⟩
section
variable {P : Program} {w : World} {K : PySem.W.Frag} {mg : Str → Option Value} {base : Heap} {T : Tb}
theorem ok__law_pick (F : Src K mg "_law_pick" s__law_pick) : OkD P w K mg base T "_law_pick" 1 2 S__law_pick := by
  have sc := sc__law_pick
  obtain ⟨f, fd, h1, F⟩ := F
  refine ⟨f, fd, ["_law_left_here", "_law_many"], h1, F.kp, F.bindsN (fun _ _ _ _ _ _ us hl => match us, hl with | [_, _], _ => rfl), F.ok sc (fun vs H Q E ⟨ρ, xs, Pq, a, b, c, d⟩ => by rw [a.rv.length, b]; rfl) fun cdv A outer s H vs Q E hr ⟨ρ, xs, Pq, a, ln, c, d⟩ => ?_⟩
  obtain ⟨m, rfl, hm0, hm1, hq⟩ := c
  obtain ⟨v1, v2, rfl, r1, r2⟩ := rvs2 a.rv
  obtain ⟨p, rfl, hp⟩ := r1
  have e2 := rv_int r2
  subst e2
  obtain ⟨x, y, z, hH⟩ := a.live p hp
  refine ⟨_, PSs.nox (pss_cons (ps_if (pt_cmpR op_gt (pe_ix ix_list (pv 0) pe_int (by intro _ _; rfl)) pe_int (nomark _)) (pss_cons (ps_set (i := 2) sc.nd rfl (by first | exact Or.inl rfl | exact Or.inr rfl) (pe_op op_modN (pe_ix ix_list (pv 0) pe_int (by intro _ _; rfl)) (pv 1))) (pss_cons (ps_asg (pe_op op_fdivN (pe_ix ix_list (pv 0) pe_int (by intro _ _; rfl)) (pv 1)) (pg_sub (pv 0) pe_int set_list)) (pss_one (ps_ret (pv 2))))) pss_nil)
    (pss_cons (ps_asg (pe_op op_add (pe_ix ix_list (pv 0) pe_int (by intro _ _; rfl)) pe_int) (pg_sub (pv 0) pe_int set_list))
      (pss_cons (ps_asg (pe_op op_modN (pe_op op_add (pe_op op_add (pe_op op_mul (pe_ix ix_list (pv 0) pe_int (by intro _ _; rfl)) pe_int) pe_int) (pe_ix ix_list (pv 0) pe_int (by intro _ _; rfl))) pe_int) (pg_sub (pv 0) pe_int set_list))
        (pss_one (ps_ret (pe_op op_modN (pe_op op_fdivN (pe_op op_modN (pe_op op_mul (pe_ix ix_list (pv 0) pe_int (by intro _ _; rfl)) (pe_ix ix_list (pv 0) pe_int (by intro _ _; rfl))) pe_int) pe_int) (pv 1))))))), ?_⟩
  have rd : ∀ (H : Hp) (a b c i : Int) (v : Int) (Q : VK) (σ : L2.St), σ[0]? = some (some (.ref p)) → H p = some (.lst [.int a, .int b, .int c]) → L2.atI [V.int a, .int b, .int c] i = some (.int v) → Q (.int v) H → tOp (rIxL K) (tVar 0) (tC (.int i)) σ H Q := fun H a b c i v Q σ hσ h ha hq =>
    ⟨.ref p, hσ, p, _, i, .int v, rfl, rfl, SqL.of h, ha, hq⟩
  have wr : ∀ (H : Hp) (a b c a' b' c' i : Int) (j : Nat) (v : Int) (Q : L2.St → Hp → Prop) (σ : L2.St), σ[0]? = some (some (.ref p)) → H p = some (.lst [.int a, .int b, .int c]) → L2.ixN 3 i = some j → [V.int a, .int b, .int c].set j (.int v) = [V.int a', .int b', .int c'] → Q σ (upd H p (.lst [.int a', .int b', .int c'])) → gSub (tVar 0) (tC (.int i)) rSetL (.int v) σ H Q := fun H a b c a' b' c' i j v Q σ hσ h hi hs hq =>
    ⟨.ref p, hσ, p, _, i, j, rfl, rfl, h, hi, by rw [hs]; exact hq⟩
  have modB : ∀ n : Int, 0 ≤ n.fmod m ∧ n.fmod m < m := fun n => by
    rw [Int.fmod_eq_emod_of_nonneg n (by omega)]
    exact ⟨Int.emod_nonneg _ (by omega), Int.emod_lt_of_pos _ hm0⟩
  have ret : ∀ (n : Int) (H' : Hp), Ext ρ T H H' → Q (.int (n.fmod m)) H' := fun n H' e =>
    d _ H' (.d (.int (n.fmod m))) (hq _ (modB n).1 (modB n).2) e (RD.int _)
  refine rd H x y z 0 x _ _ rfl hH rfl ⟨x, 0, rfl, rfl, decide (0 < x), rfl, ?_⟩
  by_cases hx : 0 < x
  · refine ite_t (decide_eq_true hx) ?_
    refine rd H x y z 0 x _ _ rfl hH rfl ⟨.int m, rfl, x, m, rfl, rfl, by omega, ?_⟩
    refine rd H x y z 0 x _ _ rfl hH rfl ⟨.int m, rfl, x, m, rfl, rfl, ⟨by omega, by omega⟩, ?_⟩
    refine wr H x y z (x.fdiv m) y z 0 0 _ _ _ rfl hH rfl rfl ⟨.int (x.fmod m), rfl, ?_⟩
    exact ret x _ (rng_ext hp hH)
  · refine ite_f (decide_eq_false hx) ?_
    refine rd H x y z 2 z _ _ rfl hH rfl ⟨z, 1, rfl, rfl, ?_⟩
    refine wr H x y z x y (z + 1) 2 2 _ _ _ rfl hH rfl rfl ?_
    have e1 : Ext ρ T H (upd H p (.lst [.int x, .int y, .int (z + 1)])) := rng_ext hp hH
    refine rd _ x y (z + 1) 1 y _ _ rfl upd_same rfl ⟨y, 48271, rfl, rfl, .inr ⟨by decide, by decide⟩, y * 48271, 12345, rfl, rfl, ?_⟩
    refine rd _ x y (z + 1) 2 (z + 1) _ _ rfl upd_same rfl ⟨y * 48271 + 12345, z + 1, rfl, rfl, _, 2147483647, rfl, rfl, (by show (2147483647 : Int) ≠ 0; decide), ?_⟩
    have hb : ∀ n : Int, 0 ≤ n.fmod 2147483647 ∧ n.fmod 2147483647 < 2147483647 := fun n => by
      rw [Int.fmod_eq_emod_of_nonneg n (by decide)]
      exact ⟨Int.emod_nonneg _ (by decide), Int.emod_lt_of_pos _ (by decide)⟩
    obtain ⟨y', ey, hy⟩ : ∃ y', (y * 48271 + 12345 + (z + 1)).fmod 2147483647 = y' ∧ 0 ≤ y' ∧ y' < 2147483647 := ⟨_, rfl, hb _⟩
    refine wr _ x y (z + 1) x y' (z + 1) 1 1 _ _ _ rfl upd_same rfl (by rw [← ey]; rfl) ?_
    refine rd _ x y' (z + 1) 1 y' _ _ rfl upd_same rfl ?_
    refine rd _ x y' (z + 1) 1 y' _ _ rfl upd_same rfl ⟨y', y', rfl, rfl, .inl ⟨by omega, by omega⟩, y' * y', 1999999973, rfl, rfl, (by show (1999999973 : Int) ≠ 0; decide), _, 64, rfl, rfl, ⟨by decide, by decide⟩, .int m, rfl, _, m, rfl, rfl, by omega, ?_⟩
    exact ret _ _ (e1.trans (rng_ext hp upd_same))
end
end Bx
/-! G1: the readings of the defs and their walks; printed by gen.py -/
namespace Bx
open PySem PySem.Spec PyProof.Rows L2
open LamX (Tabs TabB)
abbrev qL : Str := ("_law_grown" : Str) ++ ".<locals>." ++ "<lambda>"

section
variable {P : Program} {w : World} {K : PySem.W.Frag} {mg : Str → Option Value} {base : Heap} {T : Tb}

theorem sc_f_fits_low : FnScope N_fits_low ["low", "number"] (defScope s_fits_low) := ⟨rfl, rfl, rfl, by decide +kernel, rfl, by decide +kernel, by decide +kernel⟩
theorem ok_fits_low   (F : Src K mg "fits_low" s_fits_low) (bi : Bi mg) : OkD P w K mg base T "fits_low" (0 + 1) 2 (defD 2 (b_fits_low )) := by
  have sc := sc_f_fits_low
  refine OkD.mk' (ps := ["low", "number"]) F sc (fun _ _ _ _ _ _ us hl => match us, hl with | [_, _], _ => rfl) (fun f cdv A outer s H E ρ H0 hr => ?_) rfl fun _ _ _ h => h
  have hu := hr.units
  have hu1 : (cxD P w K mg base N_fits_low "fits_low" s_fits_low f cdv A outer s H E).A.units + 1 < cLine := by have := hr.un; omega
  have hu5 : (cxD P w K mg base N_fits_low "fits_low" s_fits_low f cdv A outer s H E).A.units + 65 < cLine := by have := hr.un; omega
  exact psd_one (psd_ret (pd_or (pd_isN (pd_var (pv 0))) (pd_or (pd_gt (pd_var (pv 1)) (pd_at (pd_var (pv 0)) (pd_int))) (pd_one (pd_and (pd_eq hu (pd_var (pv 1)) (pd_at (pd_var (pv 0)) (pd_int))) (pd_one (pd_at (pd_var (pv 0)) (pd_int))))))))
theorem sc_f_fits_high : FnScope N_fits_high ["high", "number"] (defScope s_fits_high) := ⟨rfl, rfl, rfl, by decide +kernel, rfl, by decide +kernel, by decide +kernel⟩
theorem ok_fits_high   (F : Src K mg "fits_high" s_fits_high) (bi : Bi mg) : OkD P w K mg base T "fits_high" (0 + 1) 2 (defD 2 (b_fits_high )) := by
  have sc := sc_f_fits_high
  refine OkD.mk' (ps := ["high", "number"]) F sc (fun _ _ _ _ _ _ us hl => match us, hl with | [_, _], _ => rfl) (fun f cdv A outer s H E ρ H0 hr => ?_) rfl fun _ _ _ h => h
  have hu := hr.units
  have hu1 : (cxD P w K mg base N_fits_high "fits_high" s_fits_high f cdv A outer s H E).A.units + 1 < cLine := by have := hr.un; omega
  have hu5 : (cxD P w K mg base N_fits_high "fits_high" s_fits_high f cdv A outer s H E).A.units + 65 < cLine := by have := hr.un; omega
  exact psd_one (psd_ret (pd_or (pd_isN (pd_var (pv 0))) (pd_or (pd_lt (pd_var (pv 1)) (pd_at (pd_var (pv 0)) (pd_int))) (pd_one (pd_and (pd_eq hu (pd_var (pv 1)) (pd_at (pd_var (pv 0)) (pd_int))) (pd_one (pd_at (pd_var (pv 0)) (pd_int))))))))
theorem sc_f_fits_span : FnScope N_fits_span ["span", "number"] (defScope s_fits_span) := ⟨rfl, rfl, rfl, by decide +kernel, rfl, by decide +kernel, by decide +kernel⟩
theorem ok_fits_span {S_fits_low : DF} {S_fits_high : DF} (G_fits_low : OkD P w K mg base T "fits_low" 1 2 S_fits_low) (G_fits_high : OkD P w K mg base T "fits_high" 1 2 S_fits_high) (F : Src K mg "fits_span" s_fits_span) (bi : Bi mg) : OkD P w K mg base T "fits_span" (1 + 1) 2 (defD 2 (b_fits_span S_fits_low S_fits_high)) := by
  have sc := sc_f_fits_span
  refine OkD.mk' (ps := ["span", "number"]) F sc (fun _ _ _ _ _ _ us hl => match us, hl with | [_, _], _ => rfl) (fun f cdv A outer s H E ρ H0 hr => ?_) rfl fun _ _ _ h => h
  have hu := hr.units
  have hu1 : (cxD P w K mg base N_fits_span "fits_span" s_fits_span f cdv A outer s H E).A.units + 1 < cLine := by have := hr.un; omega
  have hu5 : (cxD P w K mg base N_fits_span "fits_span" s_fits_span f cdv A outer s H E).A.units + 65 < cLine := by have := hr.un; omega
  exact psd_one (psd_ret (pd_and (pd_fn (G_fits_low.mono (by decide)) hr rfl (pda_cons (pd_at (pd_var (pv 0)) (pd_int)) (pda_cons (pd_var (pv 1)) (pda_nil)))) (pd_one (pd_fn (G_fits_high.mono (by decide)) hr rfl (pda_cons (pd_at (pd_var (pv 0)) (pd_int)) (pda_cons (pd_var (pv 1)) (pda_nil)))))))
theorem sc_f_fits : FnScope N_fits ["box", "place"] (defScope s_fits) := ⟨rfl, rfl, rfl, by decide +kernel, rfl, by decide +kernel, by decide +kernel⟩
theorem ok_fits {S_fits_span : DF} (G_fits_span : OkD P w K mg base T "fits_span" 2 2 S_fits_span) (F : Src K mg "fits" s_fits) (bi : Bi mg) : OkD P w K mg base T "fits" (2 + 1) 2 (defD 4 (b_fits S_fits_span)) := by
  have sc := sc_f_fits
  refine OkD.mk' (ps := ["box", "place"]) F sc (fun _ _ _ _ _ _ us hl => match us, hl with | [_, _], _ => rfl) (fun f cdv A outer s H E ρ H0 hr => ?_) rfl fun _ _ _ h => h
  have hu := hr.units
  have hu1 : (cxD P w K mg base N_fits "fits" s_fits f cdv A outer s H E).A.units + 1 < cLine := by have := hr.un; omega
  have hu5 : (cxD P w K mg base N_fits "fits" s_fits f cdv A outer s H E).A.units + 65 < cLine := by have := hr.un; omega
  exact psd_one (psd_ret (pd_all rfl bi (pd_lc rfl sc.nd (pic_zip rfl bi.zip (pd_var (pv 0)) (pd_var (pv 1))) (own := [("span", 2), ("number", 3)]) (blkOk_of (N := N_fits) (sc := defScope s_fits) (by kernel_rfl)) (fun _ _ _ _ _ => pg_tup rfl (pgs_cons (pg_name (i := 2) sc.nd rfl (by first | exact Or.inl rfl | exact Or.inr rfl)) (pgs_cons (pg_name (i := 3) sc.nd rfl (by first | exact Or.inl rfl | exact Or.inr rfl)) (pgs_nil)))) (fun _ _ _ _ _ => ptsd_nil) (fun _ _ _ _ _ => pd_fn (G_fits_span.mono (by decide)) hr rfl (pda_cons (pd_var (pv 2)) (pda_cons (pd_var (pv 3)) (pda_nil)))))))
theorem sc_f_plain_span : FnScope N_plain_span ["span"] (defScope s_plain_span) := ⟨rfl, rfl, rfl, by decide +kernel, rfl, by decide +kernel, by decide +kernel⟩
theorem ok_plain_span   (F : Src K mg "plain_span" s_plain_span) (bi : Bi mg) : OkD P w K mg base T "plain_span" (0 + 1) 1 (defD 5 (b_plain_span )) := by
  have sc := sc_f_plain_span
  refine OkD.mk' (ps := ["span"]) F sc (fun _ _ _ _ _ _ us hl => match us, hl with | [_], _ => rfl) (fun f cdv A outer s H E ρ H0 hr => ?_) rfl fun _ _ _ h => h
  have hu := hr.units
  have hu1 : (cxD P w K mg base N_plain_span "plain_span" s_plain_span f cdv A outer s H E).A.units + 1 < cLine := by have := hr.un; omega
  have hu5 : (cxD P w K mg base N_plain_span "plain_span" s_plain_span f cdv A outer s H E).A.units + 65 < cLine := by have := hr.un; omega
  exact psd_cons (psd_asg (ps_asg (pd_var (pv 0)) (pg_tup rfl (pgs_cons (pg_name (i := 1) sc.nd rfl (by first | exact Or.inl rfl | exact Or.inr rfl)) (pgs_cons (pg_name (i := 2) sc.nd rfl (by first | exact Or.inl rfl | exact Or.inr rfl)) (pgs_nil)))))) (psd_cons (psd_asg (ps_asg (pd_tup (pda_cons (pd_non) (pda_cons (pd_non) (pda_nil)))) (pg_tup rfl (pgs_cons (pg_name (i := 3) sc.nd rfl (by first | exact Or.inl rfl | exact Or.inr rfl)) (pgs_cons (pg_name (i := 4) sc.nd rfl (by first | exact Or.inl rfl | exact Or.inr rfl)) (pgs_nil)))))) (psd_cons (psd_if (ptd_notN (pd_var (pv 1))) (psd_one (psd_setF (ps_set (i := 3) sc.nd rfl (by first | exact Or.inl rfl | exact Or.inr rfl) (pd_add (pd_at (pd_var (pv 1)) (pd_int)) (pd_intc bi (pd_not (pd_at (pd_var (pv 1)) (pd_int)))))))) (psd_nil)) (psd_cons (psd_if (ptd_notN (pd_var (pv 2))) (psd_one (psd_setF (ps_set (i := 4) sc.nd rfl (by first | exact Or.inl rfl | exact Or.inr rfl) (pd_sub (pd_at (pd_var (pv 2)) (pd_int)) (pd_intc bi (pd_not (pd_at (pd_var (pv 2)) (pd_int)))))))) (psd_nil)) (psd_one (psd_ret (pd_tup (pda_cons (pd_var (pv 3)) (pda_cons (pd_var (pv 4)) (pda_nil)))))))))
theorem sc_f_is_crossed : FnScope N_is_crossed ["pair"] (defScope s_is_crossed) := ⟨rfl, rfl, rfl, by decide +kernel, rfl, by decide +kernel, by decide +kernel⟩
theorem ok_is_crossed   (F : Src K mg "is_crossed" s_is_crossed) (bi : Bi mg) : OkD P w K mg base T "is_crossed" (0 + 1) 1 (defD 1 (b_is_crossed )) := by
  have sc := sc_f_is_crossed
  refine OkD.mk' (ps := ["pair"]) F sc (fun _ _ _ _ _ _ us hl => match us, hl with | [_], _ => rfl) (fun f cdv A outer s H E ρ H0 hr => ?_) rfl fun _ _ _ h => h
  have hu := hr.units
  have hu1 : (cxD P w K mg base N_is_crossed "is_crossed" s_is_crossed f cdv A outer s H E).A.units + 1 < cLine := by have := hr.un; omega
  have hu5 : (cxD P w K mg base N_is_crossed "is_crossed" s_is_crossed f cdv A outer s H E).A.units + 65 < cLine := by have := hr.un; omega
  exact psd_one (psd_ret (pd_and (pd_notN (pd_at (pd_var (pv 0)) (pd_int))) (pd_and (pd_notN (pd_at (pd_var (pv 0)) (pd_int))) (pd_one (pd_gt (pd_at (pd_var (pv 0)) (pd_int)) (pd_at (pd_var (pv 0)) (pd_int)))))))
theorem sc_f_plain_of : FnScope N_plain_of ["pairs"] (defScope s_plain_of) := ⟨rfl, rfl, rfl, by decide +kernel, rfl, by decide +kernel, by decide +kernel⟩
theorem ok_plain_of {S_is_crossed : DF} (G_is_crossed : OkD P w K mg base T "is_crossed" 1 1 S_is_crossed) (F : Src K mg "plain_of" s_plain_of) (bi : Bi mg) (bg : Bg K mg) : OkD P w K mg base T "plain_of" (1 + 1) 1 (defD 2 (b_plain_of S_is_crossed)) := by
  have sc := sc_f_plain_of
  refine OkD.mk' (ps := ["pairs"]) F sc (fun _ _ _ _ _ _ us hl => match us, hl with | [_], _ => rfl) (fun f cdv A outer s H E ρ H0 hr => ?_) rfl fun _ _ _ h => h
  have hu := hr.units
  have hu1 : (cxD P w K mg base N_plain_of "plain_of" s_plain_of f cdv A outer s H E).A.units + 1 < cLine := by have := hr.un; omega
  have hu5 : (cxD P w K mg base N_plain_of "plain_of" s_plain_of f cdv A outer s H E).A.units + 65 < cLine := by have := hr.un; omega
  exact psd_cons (psd_if (ptd_val (pd_any rfl bi (pd_lc rfl sc.nd (pic_list (pd_var (pv 0))) (own := [("pair", 1)]) (blkOk_of (N := N_plain_of) (sc := defScope s_plain_of) (by kernel_rfl)) (fun _ _ _ _ _ => pg_name (i := 1) sc.nd rfl (by first | exact Or.inl rfl | exact Or.inr rfl)) (fun _ _ _ _ _ => ptsd_nil) (fun _ _ _ _ _ => pd_fn (G_is_crossed.mono (by decide)) hr rfl (pda_cons (pd_var (pv 1)) (pda_nil)))))) (psd_one (psd_ret (pd_tuple bi (pd_lc rfl sc.nd (pic_list (pd_var (pv 0))) (own := [("pair", 1)]) (blkOk_of (N := N_plain_of) (sc := defScope s_plain_of) (by kernel_rfl)) (fun _ _ _ _ _ => pg_name (i := 1) sc.nd rfl (by first | exact Or.inl rfl | exact Or.inr rfl)) (fun _ _ _ _ _ => ptsd_nil) (fun _ _ _ _ _ => pd_emptyB bg))))) (psd_nil)) (psd_one (psd_ret (pd_tuple bi (pd_var (pv 0)))))
theorem sc_f_plain_box : FnScope N_plain_box ["box"] (defScope s_plain_box) := ⟨rfl, rfl, rfl, by decide +kernel, rfl, by decide +kernel, by decide +kernel⟩
theorem ok_plain_box {S_plain_of : DF} {S_plain_span : DF} (G_plain_of : OkD P w K mg base T "plain_of" 2 1 S_plain_of) (G_plain_span : OkD P w K mg base T "plain_span" 1 1 S_plain_span) (F : Src K mg "plain_box" s_plain_box) (bi : Bi mg) : OkD P w K mg base T "plain_box" (2 + 1) 1 (defD 2 (b_plain_box S_plain_of S_plain_span)) := by
  have sc := sc_f_plain_box
  refine OkD.mk' (ps := ["box"]) F sc (fun _ _ _ _ _ _ us hl => match us, hl with | [_], _ => rfl) (fun f cdv A outer s H E ρ H0 hr => ?_) rfl fun _ _ _ h => h
  have hu := hr.units
  have hu1 : (cxD P w K mg base N_plain_box "plain_box" s_plain_box f cdv A outer s H E).A.units + 1 < cLine := by have := hr.un; omega
  have hu5 : (cxD P w K mg base N_plain_box "plain_box" s_plain_box f cdv A outer s H E).A.units + 65 < cLine := by have := hr.un; omega
  exact psd_one (psd_ret (pd_fn (G_plain_of.mono (by decide)) hr rfl (pda_cons (pd_lc rfl sc.nd (pic_tup (pd_var (pv 0))) (own := [("span", 1)]) (blkOk_of (N := N_plain_box) (sc := defScope s_plain_box) (by kernel_rfl)) (fun _ _ _ _ _ => pg_name (i := 1) sc.nd rfl (by first | exact Or.inl rfl | exact Or.inr rfl)) (fun _ _ _ _ _ => ptsd_nil) (fun _ _ _ _ _ => pd_fn (G_plain_span.mono (by decide)) hr rfl (pda_cons (pd_var (pv 1)) (pda_nil)))) (pda_nil))))
theorem sc_f_greater_of : FnScope N_greater_of ["one", "other"] (defScope s_greater_of) := ⟨rfl, rfl, rfl, by decide +kernel, rfl, by decide +kernel, by decide +kernel⟩
theorem ok_greater_of   (F : Src K mg "greater_of" s_greater_of) (bi : Bi mg) : OkD P w K mg base T "greater_of" (0 + 1) 2 (defD 2 (b_greater_of )) := by
  have sc := sc_f_greater_of
  refine OkD.mk' (ps := ["one", "other"]) F sc (fun _ _ _ _ _ _ us hl => match us, hl with | [_, _], _ => rfl) (fun f cdv A outer s H E ρ H0 hr => ?_) rfl fun _ _ _ h => h
  have hu := hr.units
  have hu1 : (cxD P w K mg base N_greater_of "greater_of" s_greater_of f cdv A outer s H E).A.units + 1 < cLine := by have := hr.un; omega
  have hu5 : (cxD P w K mg base N_greater_of "greater_of" s_greater_of f cdv A outer s H E).A.units + 65 < cLine := by have := hr.un; omega
  exact psd_cons (psd_if (PW.pt (pwd_or (ptd_isN (pd_var (pv 0))) (pwd_or1 (PW.pt (pwd_and (ptd_notN (pd_var (pv 1))) (pwd_and1 (ptd_gt (pd_var (pv 1)) (pd_var (pv 0))))))))) (psd_one (psd_ret (pd_var (pv 1)))) (psd_nil)) (psd_one (psd_ret (pd_var (pv 0))))
theorem sc_f_lesser_of : FnScope N_lesser_of ["one", "other"] (defScope s_lesser_of) := ⟨rfl, rfl, rfl, by decide +kernel, rfl, by decide +kernel, by decide +kernel⟩
theorem ok_lesser_of   (F : Src K mg "lesser_of" s_lesser_of) (bi : Bi mg) : OkD P w K mg base T "lesser_of" (0 + 1) 2 (defD 2 (b_lesser_of )) := by
  have sc := sc_f_lesser_of
  refine OkD.mk' (ps := ["one", "other"]) F sc (fun _ _ _ _ _ _ us hl => match us, hl with | [_, _], _ => rfl) (fun f cdv A outer s H E ρ H0 hr => ?_) rfl fun _ _ _ h => h
  have hu := hr.units
  have hu1 : (cxD P w K mg base N_lesser_of "lesser_of" s_lesser_of f cdv A outer s H E).A.units + 1 < cLine := by have := hr.un; omega
  have hu5 : (cxD P w K mg base N_lesser_of "lesser_of" s_lesser_of f cdv A outer s H E).A.units + 65 < cLine := by have := hr.un; omega
  exact psd_cons (psd_if (PW.pt (pwd_or (ptd_isN (pd_var (pv 0))) (pwd_or1 (PW.pt (pwd_and (ptd_notN (pd_var (pv 1))) (pwd_and1 (ptd_lt (pd_var (pv 1)) (pd_var (pv 0))))))))) (psd_one (psd_ret (pd_var (pv 1)))) (psd_nil)) (psd_one (psd_ret (pd_var (pv 0))))
theorem sc_f_common : FnScope N_common ["one", "other"] (defScope s_common) := ⟨rfl, rfl, rfl, by decide +kernel, rfl, by decide +kernel, by decide +kernel⟩
theorem ok_common {S_lesser_of : DF} {S_greater_of : DF} {S_plain_of : DF} (G_lesser_of : OkD P w K mg base T "lesser_of" 1 2 S_lesser_of) (G_greater_of : OkD P w K mg base T "greater_of" 1 2 S_greater_of) (G_plain_of : OkD P w K mg base T "plain_of" 2 1 S_plain_of) (F : Src K mg "common" s_common) (bi : Bi mg) : OkD P w K mg base T "common" (2 + 1) 2 (defD 5 (b_common S_lesser_of S_greater_of S_plain_of)) := by
  have sc := sc_f_common
  refine OkD.mk' (ps := ["one", "other"]) F sc (fun _ _ _ _ _ _ us hl => match us, hl with | [_, _], _ => rfl) (fun f cdv A outer s H E ρ H0 hr => ?_) rfl fun _ _ _ h => h
  have hu := hr.units
  have hu1 : (cxD P w K mg base N_common "common" s_common f cdv A outer s H E).A.units + 1 < cLine := by have := hr.un; omega
  have hu5 : (cxD P w K mg base N_common "common" s_common f cdv A outer s H E).A.units + 65 < cLine := by have := hr.un; omega
  exact psd_cons (psd_set (ps_set (i := 2) sc.nd rfl (by first | exact Or.inl rfl | exact Or.inr rfl) (pd_lst (pda_nil)))) (psd_cons (psd_for PassesOwn.never rfl (pif_zip rfl bi.zip (pv 0) (pv 1)) (pg_tup rfl (pgs_cons (pg_name (i := 3) sc.nd rfl (by first | exact Or.inl rfl | exact Or.inr rfl)) (pgs_cons (pg_name (i := 4) sc.nd rfl (by first | exact Or.inl rfl | exact Or.inr rfl)) (pgs_nil)))) (psd_one (psd_app (ps_expr (pe_bm PySem.F.plainAttrs_list PySem.F.slot_list_append PySem.F.type_list_append mt_append (pv 2) (pa_cons (pd_tup (pda_cons (pd_fn (G_greater_of.mono (by decide)) hr rfl (pda_cons (pd_at (pd_var (pv 3)) (pd_int)) (pda_cons (pd_at (pd_var (pv 4)) (pd_int)) (pda_nil)))) (pda_cons (pd_fn (G_lesser_of.mono (by decide)) hr rfl (pda_cons (pd_at (pd_var (pv 3)) (pd_int)) (pda_cons (pd_at (pd_var (pv 4)) (pd_int)) (pda_nil)))) (pda_nil)))) pa_nil)))))) (psd_one (psd_ret (pd_fn (G_plain_of.mono (by decide)) hr rfl (pda_cons (pd_var (pv 2)) (pda_nil))))))
theorem sc_f_lies_within : FnScope N_lies_within ["one", "other"] (defScope s_lies_within) := ⟨rfl, rfl, rfl, by decide +kernel, rfl, by decide +kernel, by decide +kernel⟩
theorem ok_lies_within {S_common : DF} (G_common : OkD P w K mg base T "common" 3 2 S_common) (F : Src K mg "lies_within" s_lies_within) (bi : Bi mg) : OkD P w K mg base T "lies_within" (3 + 1) 2 (defD 2 (b_lies_within S_common)) := by
  have sc := sc_f_lies_within
  refine OkD.mk' (ps := ["one", "other"]) F sc (fun _ _ _ _ _ _ us hl => match us, hl with | [_, _], _ => rfl) (fun f cdv A outer s H E ρ H0 hr => ?_) rfl fun _ _ _ h => h
  have hu := hr.units
  have hu1 : (cxD P w K mg base N_lies_within "lies_within" s_lies_within f cdv A outer s H E).A.units + 1 < cLine := by have := hr.un; omega
  have hu5 : (cxD P w K mg base N_lies_within "lies_within" s_lies_within f cdv A outer s H E).A.units + 65 < cLine := by have := hr.un; omega
  exact psd_one (psd_ret (pd_eq hu (pd_fn (G_common.mono (by decide)) hr rfl (pda_cons (pd_var (pv 0)) (pda_cons (pd_var (pv 1)) (pda_nil)))) (pd_var (pv 0))))
theorem sc_f_things_in : FnScope N_things_in ["house", "box"] (defScope s_things_in) := ⟨rfl, rfl, rfl, by decide +kernel, rfl, by decide +kernel, by decide +kernel⟩
theorem ok_things_in {S_fits : DF} (G_fits : OkD P w K mg base T "fits" 3 2 S_fits) (F : Src K mg "things_in" s_things_in) (bi : Bi mg) : OkD P w K mg base T "things_in" (3 + 1) 2 (defD 3 (b_things_in S_fits)) := by
  have sc := sc_f_things_in
  refine OkD.mk' (ps := ["house", "box"]) F sc (fun _ _ _ _ _ _ us hl => match us, hl with | [_, _], _ => rfl) (fun f cdv A outer s H E ρ H0 hr => ?_) rfl fun _ _ _ h => h
  have hu := hr.units
  have hu1 : (cxD P w K mg base N_things_in "things_in" s_things_in f cdv A outer s H E).A.units + 1 < cLine := by have := hr.un; omega
  have hu5 : (cxD P w K mg base N_things_in "things_in" s_things_in f cdv A outer s H E).A.units + 65 < cLine := by have := hr.un; omega
  exact psd_one (psd_ret (pd_lc rfl sc.nd (pic_tup (pd_at (pd_var (pv 0)) (pd_int))) (own := [("thing", 2)]) (blkOk_of (N := N_things_in) (sc := defScope s_things_in) (by kernel_rfl)) (fun _ _ _ _ _ => pg_name (i := 2) sc.nd rfl (by first | exact Or.inl rfl | exact Or.inr rfl)) (fun _ _ _ _ _ => ptsd_one (ptd_val (pd_fn (G_fits.mono (by decide)) hr rfl (pda_cons (pd_var (pv 1)) (pda_cons (pd_at (pd_var (pv 2)) (pd_int)) (pda_nil)))))) (fun _ _ _ _ _ => pd_var (pv 2))))
theorem sc_f_names_of : FnScope N_names_of ["things"] (defScope s_names_of) := ⟨rfl, rfl, rfl, by decide +kernel, rfl, by decide +kernel, by decide +kernel⟩
theorem ok_names_of   (F : Src K mg "names_of" s_names_of) (bi : Bi mg) : OkD P w K mg base T "names_of" (0 + 1) 1 (defD 2 (b_names_of )) := by
  have sc := sc_f_names_of
  refine OkD.mk' (ps := ["things"]) F sc (fun _ _ _ _ _ _ us hl => match us, hl with | [_], _ => rfl) (fun f cdv A outer s H E ρ H0 hr => ?_) rfl fun _ _ _ h => h
  have hu := hr.units
  have hu1 : (cxD P w K mg base N_names_of "names_of" s_names_of f cdv A outer s H E).A.units + 1 < cLine := by have := hr.un; omega
  have hu5 : (cxD P w K mg base N_names_of "names_of" s_names_of f cdv A outer s H E).A.units + 65 < cLine := by have := hr.un; omega
  exact psd_one (psd_ret (pd_tuple bi (pd_lc rfl sc.nd (pic_list (pd_var (pv 0))) (own := [("thing", 1)]) (blkOk_of (N := N_names_of) (sc := defScope s_names_of) (by kernel_rfl)) (fun _ _ _ _ _ => pg_name (i := 1) sc.nd rfl (by first | exact Or.inl rfl | exact Or.inr rfl)) (fun _ _ _ _ _ => ptsd_nil) (fun _ _ _ _ _ => pd_at (pd_var (pv 1)) (pd_int)))))
theorem sc_f_in_order : FnScope N_in_order ["things"] (defScope s_in_order) := ⟨rfl, rfl, rfl, by decide +kernel, rfl, by decide +kernel, by decide +kernel⟩
theorem ok_in_order   (F : Src K mg "in_order" s_in_order) (bi : Bi mg) (bp : Src K mg "by_place" s_by_place) : OkD P w K mg base T "in_order" (1 + 1) 1 (defD 1 (b_in_order )) := by
  have sc := sc_f_in_order
  refine OkD.mk' (ps := ["things"]) F sc (fun _ _ _ _ _ _ us hl => match us, hl with | [_], _ => rfl) (fun f cdv A outer s H E ρ H0 hr => ?_) rfl fun _ _ _ h => h
  have hu := hr.units
  have hu1 : (cxD P w K mg base N_in_order "in_order" s_in_order f cdv A outer s H E).A.units + 1 < cLine := by have := hr.un; omega
  have hu5 : (cxD P w K mg base N_in_order "in_order" s_in_order f cdv A outer s H E).A.units + 65 < cLine := by have := hr.un; omega
  exact psd_one (psd_ret (pd_sortP hr bp bi (pd_var (pv 0))))
theorem sc_f_answer_of : FnScope N_answer_of ["things", "ask"] (defScope s_answer_of) := ⟨rfl, rfl, rfl, by decide +kernel, rfl, by decide +kernel, by decide +kernel⟩
theorem ok_answer_of {S_names_of : DF} {S_in_order : DF} (G_names_of : OkD P w K mg base T "names_of" 1 1 S_names_of) (G_in_order : OkD P w K mg base T "in_order" 2 1 S_in_order) (F : Src K mg "answer_of" s_answer_of) (bi : Bi mg) : OkD P w K mg base T "answer_of" (2 + 1) 2 (defD 4 (b_answer_of S_names_of S_in_order)) := by
  have sc := sc_f_answer_of
  refine OkD.mk' (ps := ["things", "ask"]) F sc (fun _ _ _ _ _ _ us hl => match us, hl with | [_, _], _ => rfl) (fun f cdv A outer s H E ρ H0 hr => ?_) rfl fun _ _ _ h => h
  have hu := hr.units
  have hu1 : (cxD P w K mg base N_answer_of "answer_of" s_answer_of f cdv A outer s H E).A.units + 1 < cLine := by have := hr.un; omega
  have hu5 : (cxD P w K mg base N_answer_of "answer_of" s_answer_of f cdv A outer s H E).A.units + 65 < cLine := by have := hr.un; omega
  exact psd_cons (psd_setF (ps_set (i := 2) sc.nd rfl (by first | exact Or.inl rfl | exact Or.inr rfl) (pd_at (pd_var (pv 1)) (pd_int)))) (psd_cons (psd_if (ptd_eq hu (pd_var (pv 2)) (pd_str (by decide +kernel))) (psd_one (psd_ret (pd_len bi (pd_var (pv 0))))) (psd_nil)) (psd_cons (psd_if (ptd_eq hu (pd_var (pv 2)) (pd_str (by decide +kernel))) (psd_one (psd_ret (pd_sum rfl bi (pd_lc rfl sc.nd (pic_list (pd_var (pv 0))) (own := [("thing", 3)]) (blkOk_of (N := N_answer_of) (sc := defScope s_answer_of) (by kernel_rfl)) (fun _ _ _ _ _ => pg_name (i := 3) sc.nd rfl (by first | exact Or.inl rfl | exact Or.inr rfl)) (fun _ _ _ _ _ => ptsd_nil) (fun _ _ _ _ _ => pd_at (pd_var (pv 3)) (pd_int)))))) (psd_nil)) (psd_cons (psd_if (ptd_eq hu (pd_var (pv 2)) (pd_str (by decide +kernel))) psd_never psd_nil) (psd_cons (psd_if (ptd_eq hu (pd_var (pv 2)) (pd_str (by decide +kernel))) psd_never psd_nil) (psd_cons (psd_if (ptd_eq hu (pd_var (pv 2)) (pd_str (by decide +kernel))) (psd_one (psd_ret (pd_fn (G_names_of.mono (by decide)) hr rfl (pda_cons (pd_fn (G_in_order.mono (by decide)) hr rfl (pda_cons (pd_var (pv 0)) (pda_nil))) (pda_nil))))) (psd_nil)) (psd_cons (psd_if (ptd_eq hu (pd_var (pv 2)) (pd_str (by decide +kernel))) psd_never psd_nil) (psd_cons (psd_if (ptd_eq hu (pd_var (pv 2)) (pd_str (by decide +kernel))) psd_never psd_nil) (psd_one (psd_never1)))))))))
theorem sc_f_answer : FnScope N_answer ["house", "ask"] (defScope s_answer) := ⟨rfl, rfl, rfl, by decide +kernel, rfl, by decide +kernel, by decide +kernel⟩
theorem ok_answer {S_answer_of : DF} {S_things_in : DF} (G_answer_of : OkD P w K mg base T "answer_of" 3 2 S_answer_of) (G_things_in : OkD P w K mg base T "things_in" 4 2 S_things_in) (F : Src K mg "answer" s_answer) (bi : Bi mg) : OkD P w K mg base T "answer" (4 + 1) 2 (defD 2 (b_answer S_answer_of S_things_in)) := by
  have sc := sc_f_answer
  refine OkD.mk' (ps := ["house", "ask"]) F sc (fun _ _ _ _ _ _ us hl => match us, hl with | [_, _], _ => rfl) (fun f cdv A outer s H E ρ H0 hr => ?_) rfl fun _ _ _ h => h
  have hu := hr.units
  have hu1 : (cxD P w K mg base N_answer "answer" s_answer f cdv A outer s H E).A.units + 1 < cLine := by have := hr.un; omega
  have hu5 : (cxD P w K mg base N_answer "answer" s_answer f cdv A outer s H E).A.units + 65 < cLine := by have := hr.un; omega
  exact psd_one (psd_ret (pd_fn (G_answer_of.mono (by decide)) hr rfl (pda_cons (pd_fn (G_things_in.mono (by decide)) hr rfl (pda_cons (pd_var (pv 0)) (pda_cons (pd_at (pd_var (pv 1)) (pd_int)) (pda_nil)))) (pda_cons (pd_var (pv 1)) (pda_nil)))))
theorem sc_f_lies_out : FnScope N_lies_out ["bounds", "plain", "i", "side"] (defScope s_lies_out) := ⟨rfl, rfl, rfl, by decide +kernel, rfl, by decide +kernel, by decide +kernel⟩
theorem ok_lies_out   (F : Src K mg "lies_out" s_lies_out) (bi : Bi mg) (bg : Bg K mg) : OkD P w K mg base T "lies_out" (0 + 1) 4 (defD 6 (b_lies_out )) := by
  have sc := sc_f_lies_out
  refine OkD.mk' (ps := ["bounds", "plain", "i", "side"]) F sc (fun _ _ _ _ _ _ us hl => match us, hl with | [_, _, _, _], _ => rfl) (fun f cdv A outer s H E ρ H0 hr => ?_) rfl fun _ _ _ h => h
  have hu := hr.units
  have hu1 : (cxD P w K mg base N_lies_out "lies_out" s_lies_out f cdv A outer s H E).A.units + 1 < cLine := by have := hr.un; omega
  have hu5 : (cxD P w K mg base N_lies_out "lies_out" s_lies_out f cdv A outer s H E).A.units + 65 < cLine := by have := hr.un; omega
  exact psd_cons (psd_asg (ps_asg (pd_at (pd_var (pv 1)) (pd_var (pv 2))) (pg_tup rfl (pgs_cons (pg_name (i := 4) sc.nd rfl (by first | exact Or.inl rfl | exact Or.inr rfl)) (pgs_cons (pg_name (i := 5) sc.nd rfl (by first | exact Or.inl rfl | exact Or.inr rfl)) (pgs_nil)))))) (psd_cons (psd_if (ptd_eq hu (pd_at (pd_var (pv 1)) (pd_var (pv 2))) (pd_emptyC bg)) (psd_one (psd_ret (pd_bl))) (psd_nil)) (psd_cons (psd_if (ptd_eq hu (pd_var (pv 3)) (pd_int)) (psd_one (psd_ret (pd_and (pd_notN (pd_var (pv 4))) (pd_one (pd_lt (pd_at (pd_at (pd_var (pv 0)) (pd_var (pv 2))) (pd_int)) (pd_var (pv 4))))))) (psd_nil)) (psd_one (psd_ret (pd_and (pd_notN (pd_var (pv 5))) (pd_one (pd_gt (pd_at (pd_at (pd_var (pv 0)) (pd_var (pv 2))) (pd_int)) (pd_var (pv 5)))))))))
theorem sc_f_tree_at : FnScope N_tree_at ["tree", "path"] (defScope s_tree_at) := ⟨rfl, rfl, rfl, by decide +kernel, rfl, by decide +kernel, by decide +kernel⟩
theorem ok_tree_at   (F : Src K mg "tree_at" s_tree_at) (bi : Bi mg) : OkD P w K mg base T "tree_at" (0 + 1) 2 (defD 3 (b_tree_at )) := by
  have sc := sc_f_tree_at
  refine OkD.mk' (ps := ["tree", "path"]) F sc (fun _ _ _ _ _ _ us hl => match us, hl with | [_, _], _ => rfl) (fun f cdv A outer s H E ρ H0 hr => ?_) rfl fun _ _ _ h => h
  have hu := hr.units
  have hu1 : (cxD P w K mg base N_tree_at "tree_at" s_tree_at f cdv A outer s H E).A.units + 1 < cLine := by have := hr.un; omega
  have hu5 : (cxD P w K mg base N_tree_at "tree_at" s_tree_at f cdv A outer s H E).A.units + 65 < cLine := by have := hr.un; omega
  exact psd_cons (psd_for PassesOwn.never rfl (pif_tup (pd_var (pv 1))) (pg_name (i := 2) sc.nd rfl (by first | exact Or.inl rfl | exact Or.inr rfl)) (psd_cons (psd_if (ptd_isN (pd_var (pv 0))) (psd_one (psd_ret (pd_non))) (psd_nil)) (psd_one (psd_setF (ps_set (i := 0) sc.nd rfl (by first | exact Or.inl rfl | exact Or.inr rfl) (pd_at (pd_var (pv 0)) (pd_add (pd_int) (pd_var (pv 2))))))))) (psd_one (psd_ret (pd_var (pv 0))))
theorem sc_f_by_cover : FnScope N_by_cover ["house", "tree", "box", "parts", "ask"] (defScope s_by_cover) := ⟨rfl, rfl, rfl, by decide +kernel, rfl, by decide +kernel, by decide +kernel⟩
theorem ok_by_cover {S_tree_at : DF} {S_answer : DF} (G_tree_at : OkD P w K mg base T "tree_at" 1 2 S_tree_at) (G_answer : OkD P w K mg base T "answer" 5 2 S_answer) (F : Src K mg "by_cover" s_by_cover) (bi : Bi mg) : OkD P w K mg base T "by_cover" (5 + 1) 5 (defD 9 (b_by_cover S_tree_at S_answer)) := by
  have sc := sc_f_by_cover
  refine OkD.mk' (ps := ["house", "tree", "box", "parts", "ask"]) F sc (fun _ _ _ _ _ _ us hl => match us, hl with | [_, _, _, _, _], _ => rfl) (fun f cdv A outer s H E ρ H0 hr => ?_) rfl fun _ _ _ h => h
  have hu := hr.units
  have hu1 : (cxD P w K mg base N_by_cover "by_cover" s_by_cover f cdv A outer s H E).A.units + 1 < cLine := by have := hr.un; omega
  have hu5 : (cxD P w K mg base N_by_cover "by_cover" s_by_cover f cdv A outer s H E).A.units + 65 < cLine := by have := hr.un; omega
  exact psd_cons (psd_set (ps_set (i := 5) sc.nd rfl (by first | exact Or.inl rfl | exact Or.inr rfl) (pd_newD))) (psd_cons (psd_for PassesOwn.never rfl (pif_tup (pd_var (pv 3))) (pg_name (i := 6) sc.nd rfl (by first | exact Or.inl rfl | exact Or.inr rfl)) (psd_one (psd_if (ptd_eq hu (pd_at (pd_var (pv 6)) (pd_int)) (pd_str (by decide +kernel))) (psd_one (psd_upd (ps_expr (pe_bm PySem.F.plainAttrs_dict PySem.F.slot_dict_update PySem.F.type_dict_update (mt_upd rfl) (pv 5) (pa_cons (pd_lc rfl sc.nd (pic_tup (pd_at (pd_fn (G_tree_at.mono (by decide)) hr rfl (pda_cons (pd_var (pv 1)) (pda_cons (pd_at (pd_var (pv 6)) (pd_int)) (pda_nil)))) (pd_int))) (own := [("name", 7)]) (blkOk_of (N := N_by_cover) (sc := defScope s_by_cover) (by kernel_rfl)) (fun _ _ _ _ _ => pg_name (i := 7) sc.nd rfl (by first | exact Or.inl rfl | exact Or.inr rfl)) (fun _ _ _ _ _ => ptsd_nil) (fun _ _ _ _ _ => pd_tup (pda_cons (pd_var (pv 7)) (pda_cons (pd_bl) (pda_nil))))) pa_nil))))) (psd_nil)))) (psd_one (psd_ret (pd_fn (G_answer.mono (by decide)) hr rfl (pda_cons (pd_tup (pda_cons (pd_at (pd_var (pv 0)) (pd_int)) (pda_cons (pd_tuple bi (pd_lc rfl sc.nd (pic_tup (pd_at (pd_var (pv 0)) (pd_int))) (own := [("thing", 8)]) (blkOk_of (N := N_by_cover) (sc := defScope s_by_cover) (by kernel_rfl)) (fun _ _ _ _ _ => pg_name (i := 8) sc.nd rfl (by first | exact Or.inl rfl | exact Or.inr rfl)) (fun _ _ _ _ _ => ptsd_one (ptd_inD hu1 (pd_at (pd_var (pv 8)) (pd_int)) (pd_var (pv 5)))) (fun _ _ _ _ _ => pd_var (pv 8)))) (pda_nil)))) (pda_cons (pd_var (pv 4)) (pda_nil)))))))
theorem sc_f_is_count : FnScope N_is_count ["thing", "many"] (defScope s_is_count) := ⟨rfl, rfl, rfl, by decide +kernel, rfl, by decide +kernel, by decide +kernel⟩
theorem ok_is_count   (F : Src K mg "is_count" s_is_count) (bi : Bi mg) : OkD P w K mg base T "is_count" (0 + 1) 2 (defD 2 (b_is_count )) := by
  have sc := sc_f_is_count
  refine OkD.mk' (ps := ["thing", "many"]) F sc (fun _ _ _ _ _ _ us hl => match us, hl with | [_, _], _ => rfl) (fun f cdv A outer s H E ρ H0 hr => ?_) rfl fun _ _ _ h => h
  have hu := hr.units
  have hu1 : (cxD P w K mg base N_is_count "is_count" s_is_count f cdv A outer s H E).A.units + 1 < cLine := by have := hr.un; omega
  have hu5 : (cxD P w K mg base N_is_count "is_count" s_is_count f cdv A outer s H E).A.units + 65 < cLine := by have := hr.un; omega
  exact psd_one (psd_ret (pd_and (pd_isi bi (pd_var (pv 0)) (pd_ty rfl bi.int PyProof.Rows.boot_int)) (pd_and (pd_not (pd_isi bi (pd_var (pv 0)) (pd_ty rfl bi.bool PyProof.Rows.boot_bool))) (pd_one (pd_chain (pd_int) (pd_var (pv 0)) (pd_var (pv 1)))))))
theorem sc_f_is_path : FnScope N_is_path ["thing"] (defScope s_is_path) := ⟨rfl, rfl, rfl, by decide +kernel, rfl, by decide +kernel, by decide +kernel⟩
theorem ok_is_path {S_is_count : DF} (G_is_count : OkD P w K mg base T "is_count" 1 2 S_is_count) (F : Src K mg "is_path" s_is_path) (bi : Bi mg) : OkD P w K mg base T "is_path" (1 + 1) 1 (defD 2 (b_is_path S_is_count)) := by
  have sc := sc_f_is_path
  refine OkD.mk' (ps := ["thing"]) F sc (fun _ _ _ _ _ _ us hl => match us, hl with | [_], _ => rfl) (fun f cdv A outer s H E ρ H0 hr => ?_) rfl fun _ _ _ h => h
  have hu := hr.units
  have hu1 : (cxD P w K mg base N_is_path "is_path" s_is_path f cdv A outer s H E).A.units + 1 < cLine := by have := hr.un; omega
  have hu5 : (cxD P w K mg base N_is_path "is_path" s_is_path f cdv A outer s H E).A.units + 65 < cLine := by have := hr.un; omega
  exact psd_one (psd_ret (pd_and (pd_isi bi (pd_var (pv 0)) (pd_ty rfl bi.tuple PyProof.Rows.boot_tuple)) (pd_one (pd_all rfl bi (pd_lc rfl sc.nd (pic_tup (pd_var (pv 0))) (own := [("step", 1)]) (blkOk_of (N := N_is_path) (sc := defScope s_is_path) (by kernel_rfl)) (fun _ _ _ _ _ => pg_name (i := 1) sc.nd rfl (by first | exact Or.inl rfl | exact Or.inr rfl)) (fun _ _ _ _ _ => ptsd_nil) (fun _ _ _ _ _ => pd_fn (G_is_count.mono (by decide)) hr rfl (pda_cons (pd_var (pv 1)) (pda_cons (pd_int) (pda_nil)))))))))
theorem sc_f_there : FnScope N_there ["tree", "part"] (defScope s_there) := ⟨rfl, rfl, rfl, by decide +kernel, rfl, by decide +kernel, by decide +kernel⟩
theorem ok_there {S_is_path : DF} {S_tree_at : DF} (G_is_path : OkD P w K mg base T "is_path" 2 1 S_is_path) (G_tree_at : OkD P w K mg base T "tree_at" 1 2 S_tree_at) (F : Src K mg "there" s_there) (bi : Bi mg) : OkD P w K mg base T "there" (2 + 1) 2 (defD 2 (b_there S_is_path S_tree_at)) := by
  have sc := sc_f_there
  refine OkD.mk' (ps := ["tree", "part"]) F sc (fun _ _ _ _ _ _ us hl => match us, hl with | [_, _], _ => rfl) (fun f cdv A outer s H E ρ H0 hr => ?_) rfl fun _ _ _ h => h
  have hu := hr.units
  have hu1 : (cxD P w K mg base N_there "there" s_there f cdv A outer s H E).A.units + 1 < cLine := by have := hr.un; omega
  have hu5 : (cxD P w K mg base N_there "there" s_there f cdv A outer s H E).A.units + 65 < cLine := by have := hr.un; omega
  exact psd_cons (psd_if (PW.pt (pwd_or (ptd_not (ptd_val (pd_isi bi (pd_var (pv 1)) (pd_ty rfl bi.tuple PyProof.Rows.boot_tuple)))) (pwd_or (ptd_notin (pd_len bi (pd_var (pv 1))) (pd_tup (pda_cons (pd_int) (pda_cons (pd_int) (pda_nil))))) (pwd_or1 (ptd_not (ptd_val (pd_fn (G_is_path.mono (by decide)) hr rfl (pda_cons (pd_at (pd_var (pv 1)) (pd_int)) (pda_nil))))))))) (psd_one (psd_ret (pd_non))) (psd_nil)) (psd_cons (psd_if (ptd_not (ptd_val (pd_isi bi (pd_at (pd_var (pv 1)) (pd_int)) (pd_ty rfl bi.str PyProof.Rows.boot_str)))) (psd_one (psd_ret (pd_non))) (psd_nil)) (psd_one (psd_ret (pd_fn (G_tree_at.mono (by decide)) hr rfl (pda_cons (pd_var (pv 0)) (pda_cons (pd_at (pd_var (pv 1)) (pd_int)) (pda_nil)))))))
theorem sc_f_is_out : FnScope N_is_out ["plain", "tree", "part"] (defScope s_is_out) := ⟨rfl, rfl, rfl, by decide +kernel, rfl, by decide +kernel, by decide +kernel⟩
theorem ok_is_out {S_is_count : DF} {S_lies_out : DF} (G_is_count : OkD P w K mg base T "is_count" 1 2 S_is_count) (G_lies_out : OkD P w K mg base T "lies_out" 1 4 S_lies_out) (F : Src K mg "is_out" s_is_out) (bi : Bi mg) : OkD P w K mg base T "is_out" (1 + 1) 3 (defD 3 (b_is_out S_is_count S_lies_out)) := by
  have sc := sc_f_is_out
  refine OkD.mk' (ps := ["plain", "tree", "part"]) F sc (fun _ _ _ _ _ _ us hl => match us, hl with | [_, _, _], _ => rfl) (fun f cdv A outer s H E ρ H0 hr => ?_) rfl fun _ _ _ h => h
  have hu := hr.units
  have hu1 : (cxD P w K mg base N_is_out "is_out" s_is_out f cdv A outer s H E).A.units + 1 < cLine := by have := hr.un; omega
  have hu5 : (cxD P w K mg base N_is_out "is_out" s_is_out f cdv A outer s H E).A.units + 65 < cLine := by have := hr.un; omega
  exact psd_cons (psd_if (PW.pt (pwd_or (ptd_ne hu (pd_len bi (pd_var (pv 2))) (pd_int)) (pwd_or (ptd_ne hu (pd_at (pd_var (pv 2)) (pd_int)) (pd_str (by decide +kernel))) (pwd_or (ptd_not (ptd_val (pd_fn (G_is_count.mono (by decide)) hr rfl (pda_cons (pd_at (pd_var (pv 2)) (pd_int)) (pda_cons (pd_len bi (pd_var (pv 0))) (pda_nil)))))) (pwd_or1 (ptd_not (ptd_val (pd_fn (G_is_count.mono (by decide)) hr rfl (pda_cons (pd_at (pd_var (pv 2)) (pd_int)) (pda_cons (pd_int) (pda_nil))))))))))) (psd_one (psd_ret (pd_bl))) (psd_nil)) (psd_one (psd_ret (pd_fn (G_lies_out.mono (by decide)) hr rfl (pda_cons (pd_at (pd_var (pv 1)) (pd_int)) (pda_cons (pd_var (pv 0)) (pda_cons (pd_at (pd_var (pv 2)) (pd_int)) (pda_cons (pd_at (pd_var (pv 2)) (pd_int)) (pda_nil))))))))
theorem sc_f_is_in : FnScope N_is_in ["plain", "tree", "part"] (defScope s_is_in) := ⟨rfl, rfl, rfl, by decide +kernel, rfl, by decide +kernel, by decide +kernel⟩
theorem ok_is_in {S_lies_within : DF} (G_lies_within : OkD P w K mg base T "lies_within" 4 2 S_lies_within) (F : Src K mg "is_in" s_is_in) (bi : Bi mg) : OkD P w K mg base T "is_in" (4 + 1) 3 (defD 3 (b_is_in S_lies_within)) := by
  have sc := sc_f_is_in
  refine OkD.mk' (ps := ["plain", "tree", "part"]) F sc (fun _ _ _ _ _ _ us hl => match us, hl with | [_, _, _], _ => rfl) (fun f cdv A outer s H E ρ H0 hr => ?_) rfl fun _ _ _ h => h
  have hu := hr.units
  have hu1 : (cxD P w K mg base N_is_in "is_in" s_is_in f cdv A outer s H E).A.units + 1 < cLine := by have := hr.un; omega
  have hu5 : (cxD P w K mg base N_is_in "is_in" s_is_in f cdv A outer s H E).A.units + 65 < cLine := by have := hr.un; omega
  exact psd_one (psd_ret (pd_and (pd_eq hu (pd_len bi (pd_var (pv 2))) (pd_int)) (pd_and (pd_eq hu (pd_at (pd_var (pv 2)) (pd_int)) (pd_str (by decide +kernel))) (pd_one (pd_fn (G_lies_within.mono (by decide)) hr rfl (pda_cons (pd_at (pd_var (pv 1)) (pd_int)) (pda_cons (pd_var (pv 0)) (pda_nil))))))))
theorem sc_f_has_each_once : FnScope N_has_each_once ["tree", "trees"] (defScope s_has_each_once) := ⟨rfl, rfl, rfl, by decide +kernel, rfl, by decide +kernel, by decide +kernel⟩
theorem ok_has_each_once   (F : Src K mg "has_each_once" s_has_each_once) (bi : Bi mg) : OkD P w K mg base T "has_each_once" (0 + 1) 2 (defD 4 (b_has_each_once )) := by
  have sc := sc_f_has_each_once
  refine OkD.mk' (ps := ["tree", "trees"]) F sc (fun _ _ _ _ _ _ us hl => match us, hl with | [_, _], _ => rfl) (fun f cdv A outer s H E ρ H0 hr => ?_) rfl fun _ _ _ h => h
  have hu := hr.units
  have hu1 : (cxD P w K mg base N_has_each_once "has_each_once" s_has_each_once f cdv A outer s H E).A.units + 1 < cLine := by have := hr.un; omega
  have hu5 : (cxD P w K mg base N_has_each_once "has_each_once" s_has_each_once f cdv A outer s H E).A.units + 65 < cLine := by have := hr.un; omega
  exact psd_cons (psd_set (ps_set (i := 2) sc.nd rfl (by first | exact Or.inl rfl | exact Or.inr rfl) (pd_lst (pda_nil)))) (psd_cons (psd_for PassesOwn.never rfl (pif_var (pv 1) (pi_list (pv 1)) (pi_tup (pv 1))) (pg_name (i := 3) sc.nd rfl (by first | exact Or.inl rfl | exact Or.inr rfl)) (psd_one (psd_ext (ps_expr (pe_bm PySem.F.plainAttrs_list PySem.F.slot_list_extend PySem.F.type_list_extend mt_extend (pv 2) (pa_cons (pd_list bi (pd_at (pd_var (pv 3)) (pd_int))) pa_nil)))))) (psd_one (psd_ret (pd_eq hu (pd_sorted hu bi (pd_var (pv 2))) (pd_list bi (pd_at (pd_var (pv 0)) (pd_int)))))))
theorem sc_f_shows_cover : FnScope N_shows_cover ["house", "tree", "box", "thing"] (defScope s_shows_cover) := ⟨rfl, rfl, rfl, by decide +kernel, rfl, by decide +kernel, by decide +kernel⟩
theorem ok_shows_cover {S_plain_box : DF} {S_there : DF} {S_is_in : DF} {S_is_out : DF} {S_has_each_once : DF} (G_plain_box : OkD P w K mg base T "plain_box" 3 1 S_plain_box) (G_there : OkD P w K mg base T "there" 3 2 S_there) (G_is_in : OkD P w K mg base T "is_in" 5 3 S_is_in) (G_is_out : OkD P w K mg base T "is_out" 2 3 S_is_out) (G_has_each_once : OkD P w K mg base T "has_each_once" 1 2 S_has_each_once) (F : Src K mg "shows_cover" s_shows_cover) (bi : Bi mg) : OkD P w K mg base T "shows_cover" (5 + 1) 4 (defD 8 (b_shows_cover S_plain_box S_there S_is_in S_is_out S_has_each_once)) := by
  have sc := sc_f_shows_cover
  refine OkD.mk' (ps := ["house", "tree", "box", "thing"]) F sc (fun _ _ _ _ _ _ us hl => match us, hl with | [_, _, _, _], _ => rfl) (fun f cdv A outer s H E ρ H0 hr => ?_) rfl fun _ _ _ h => h
  have hu := hr.units
  have hu1 : (cxD P w K mg base N_shows_cover "shows_cover" s_shows_cover f cdv A outer s H E).A.units + 1 < cLine := by have := hr.un; omega
  have hu5 : (cxD P w K mg base N_shows_cover "shows_cover" s_shows_cover f cdv A outer s H E).A.units + 65 < cLine := by have := hr.un; omega
  exact psd_cons (psd_if (ptd_not (ptd_val (pd_isi bi (pd_var (pv 3)) (pd_ty rfl bi.tuple PyProof.Rows.boot_tuple)))) (psd_one (psd_ret (pd_bl))) (psd_nil)) (psd_cons (psd_if (ptd_isN (pd_var (pv 1))) (psd_one (psd_ret (pd_eq hu (pd_len bi (pd_var (pv 3))) (pd_int)))) (psd_nil)) (psd_cons (psd_setF (ps_set (i := 4) sc.nd rfl (by first | exact Or.inl rfl | exact Or.inr rfl) (pd_fn (G_plain_box.mono (by decide)) hr rfl (pda_cons (pd_var (pv 2)) (pda_nil))))) (psd_cons (psd_setF (ps_lc (i := 5) rfl sc.nd rfl rfl (sw_true rfl rfl rfl rfl) (pic_tup (pd_var (pv 3))) (own := [("part", 7)]) (blkOk_of (N := N_shows_cover) (sc := defScope s_shows_cover) (by kernel_rfl)) (fun _ _ _ _ _ => pg_name (i := 7) sc.nd rfl (by first | exact Or.inl rfl | exact Or.inr rfl)) (fun _ _ _ _ _ => ptsd_nil) (fun _ _ _ _ _ => pd_fn (G_there.mono (by decide)) hr rfl (pda_cons (pd_var (pv 1)) (pda_cons (pd_var (pv 7)) (pda_nil)))))) (psd_cons (psd_if (ptd_inN hu5 (pd_non) (pd_var (pv 5))) (psd_one (psd_ret (pd_bl))) (psd_nil)) (psd_cons (psd_for PassesOwn.never rfl (pif_zip rfl bi.zip (pv 5) (pv 3)) (pg_tup rfl (pgs_cons (pg_name (i := 6) sc.nd rfl (by first | exact Or.inl rfl | exact Or.inr rfl)) (pgs_cons (pg_name (i := 7) sc.nd rfl (by first | exact Or.inl rfl | exact Or.inr rfl)) (pgs_nil)))) (psd_one (psd_if (PW.pt (pwd_and (ptd_not (ptd_val (pd_fn (G_is_in.mono (by decide)) hr rfl (pda_cons (pd_var (pv 4)) (pda_cons (pd_var (pv 6)) (pda_cons (pd_var (pv 7)) (pda_nil))))))) (pwd_and1 (ptd_not (ptd_val (pd_fn (G_is_out.mono (by decide)) hr rfl (pda_cons (pd_var (pv 4)) (pda_cons (pd_var (pv 6)) (pda_cons (pd_var (pv 7)) (pda_nil)))))))))) (psd_one (psd_ret (pd_bl))) (psd_nil)))) (psd_one (psd_ret (pd_fn (G_has_each_once.mono (by decide)) hr rfl (pda_cons (pd_var (pv 1)) (pda_cons (pd_var (pv 5)) (pda_nil)))))))))))
theorem sc_f_steps_to : FnScope N_steps_to ["bounds", "place"] (defScope s_steps_to) := ⟨rfl, rfl, rfl, by decide +kernel, rfl, by decide +kernel, by decide +kernel⟩
theorem ok_steps_to   (F : Src K mg "steps_to" s_steps_to) (bi : Bi mg) : OkD P w K mg base T "steps_to" (0 + 1) 2 (defD 6 (b_steps_to )) := by
  have sc := sc_f_steps_to
  refine OkD.mk' (ps := ["bounds", "place"]) F sc (fun _ _ _ _ _ _ us hl => match us, hl with | [_, _], _ => rfl) (fun f cdv A outer s H E ρ H0 hr => ?_) rfl fun _ _ _ h => h
  have hu := hr.units
  have hu1 : (cxD P w K mg base N_steps_to "steps_to" s_steps_to f cdv A outer s H E).A.units + 1 < cLine := by have := hr.un; omega
  have hu5 : (cxD P w K mg base N_steps_to "steps_to" s_steps_to f cdv A outer s H E).A.units + 65 < cLine := by have := hr.un; omega
  exact psd_cons (psd_setF (ps_set (i := 2) sc.nd rfl (by first | exact Or.inl rfl | exact Or.inr rfl) (pd_int))) (psd_cons (psd_for PassesOwn.never rfl (pif_zip rfl bi.zip (pv 0) (pv 1)) (pg_tup rfl (pgs_cons (pg_tup rfl (pgs_cons (pg_name (i := 4) sc.nd rfl (by first | exact Or.inl rfl | exact Or.inr rfl)) (pgs_cons (pg_name (i := 5) sc.nd rfl (by first | exact Or.inl rfl | exact Or.inr rfl)) (pgs_nil)))) (pgs_cons (pg_name (i := 3) sc.nd rfl (by first | exact Or.inl rfl | exact Or.inr rfl)) (pgs_nil)))) (psd_one (psd_aug (ps_aug (i := 2) sc.nd rfl (by first | exact Or.inl rfl | exact Or.inr rfl) (pd_max3 rfl bi (pd_int) (pd_sub (pd_var (pv 4)) (pd_var (pv 3))) (pd_sub (pd_var (pv 3)) (pd_var (pv 5)))) ip_add)))) (psd_one (psd_ret (pd_var (pv 2)))))
theorem sc_f_worths_of : FnScope N_worths_of ["house"] (defScope s_worths_of) := ⟨rfl, rfl, rfl, by decide +kernel, rfl, by decide +kernel, by decide +kernel⟩
theorem ok_worths_of   (F : Src K mg "worths_of" s_worths_of) (bi : Bi mg) : OkD P w K mg base T "worths_of" (0 + 1) 1 (defD 2 (b_worths_of )) := by
  have sc := sc_f_worths_of
  refine OkD.mk' (ps := ["house"]) F sc (fun _ _ _ _ _ _ us hl => match us, hl with | [_], _ => rfl) (fun f cdv A outer s H E ρ H0 hr => ?_) rfl fun _ _ _ h => h
  have hu := hr.units
  have hu1 : (cxD P w K mg base N_worths_of "worths_of" s_worths_of f cdv A outer s H E).A.units + 1 < cLine := by have := hr.un; omega
  have hu5 : (cxD P w K mg base N_worths_of "worths_of" s_worths_of f cdv A outer s H E).A.units + 65 < cLine := by have := hr.un; omega
  exact psd_one (psd_ret (pd_dict rfl bi (pd_lc rfl sc.nd (pic_tup (pd_at (pd_var (pv 0)) (pd_int))) (own := [("thing", 1)]) (blkOk_of (N := N_worths_of) (sc := defScope s_worths_of) (by kernel_rfl)) (fun _ _ _ _ _ => pg_name (i := 1) sc.nd rfl (by first | exact Or.inl rfl | exact Or.inr rfl)) (fun _ _ _ _ _ => ptsd_nil) (fun _ _ _ _ _ => pd_tup (pda_cons (pd_at (pd_var (pv 1)) (pd_int)) (pda_cons (pd_at (pd_var (pv 1)) (pd_int)) (pda_nil)))))))
theorem sc_f_key_by : FnScope N_key_by ["worths", "tree", "kind"] (defScope s_key_by) := ⟨rfl, rfl, rfl, by decide +kernel, rfl, by decide +kernel, by decide +kernel⟩
theorem ok_key_by {S_steps_to : DF} (G_steps_to : OkD P w K mg base T "steps_to" 1 2 S_steps_to) (F : Src K mg "key_by" s_key_by) (bi : Bi mg) : OkD P w K mg base T "key_by" (1 + 1) 3 (defD 6 (b_key_by S_steps_to)) := by
  have sc := sc_f_key_by
  refine OkD.mk' (ps := ["worths", "tree", "kind"]) F sc (fun _ _ _ _ _ _ us hl => match us, hl with | [_, _, _], _ => rfl) (fun f cdv A outer s H E ρ H0 hr => ?_) rfl fun _ _ _ h => h
  have hu := hr.units
  have hu1 : (cxD P w K mg base N_key_by "key_by" s_key_by f cdv A outer s H E).A.units + 1 < cLine := by have := hr.un; omega
  have hu5 : (cxD P w K mg base N_key_by "key_by" s_key_by f cdv A outer s H E).A.units + 65 < cLine := by have := hr.un; omega
  exact psd_cons (psd_asg (ps_asg (pd_slT (pd_var (pv 1)) (pdo_none) (pdo_some (pd_int))) (pg_tup rfl (pgs_cons (pg_name (i := 3) sc.nd rfl (by first | exact Or.inl rfl | exact Or.inr rfl)) (pgs_cons (pg_name (i := 4) sc.nd rfl (by first | exact Or.inl rfl | exact Or.inr rfl)) (pgs_nil)))))) (psd_cons (psd_if (ptd_eq hu (pd_at (pd_var (pv 2)) (pd_int)) (pd_str (by decide +kernel))) (psd_one (psd_ret (pd_tup (pda_cons (pd_fn (G_steps_to.mono (by decide)) hr rfl (pda_cons (pd_var (pv 4)) (pda_cons (pd_at (pd_var (pv 2)) (pd_int)) (pda_nil)))) (pda_cons (pd_at (pd_var (pv 3)) (pd_int)) (pda_nil)))))) (psd_nil)) (psd_one (psd_ret (pd_tup (pda_cons (pd_sub (pd_int) (pd_maxL rfl bi (pd_lc rfl sc.nd (pic_tup (pd_var (pv 3))) (own := [("name", 5)]) (blkOk_of (N := N_key_by) (sc := defScope s_key_by) (by kernel_rfl)) (fun _ _ _ _ _ => pg_name (i := 5) sc.nd rfl (by first | exact Or.inl rfl | exact Or.inr rfl)) (fun _ _ _ _ _ => ptsd_nil) (fun _ _ _ _ _ => pd_atD hu1 (pd_var (pv 0)) (pd_var (pv 5)))))) (pda_cons (pd_at (pd_var (pv 3)) (pd_int)) (pda_nil)))))))
theorem sc_f_is_name_of : FnScope N_is_name_of ["worths", "thing"] (defScope s_is_name_of) := ⟨rfl, rfl, rfl, by decide +kernel, rfl, by decide +kernel, by decide +kernel⟩
theorem ok_is_name_of   (F : Src K mg "is_name_of" s_is_name_of) (bi : Bi mg) : OkD P w K mg base T "is_name_of" (0 + 1) 2 (defD 2 (b_is_name_of )) := by
  have sc := sc_f_is_name_of
  refine OkD.mk' (ps := ["worths", "thing"]) F sc (fun _ _ _ _ _ _ us hl => match us, hl with | [_, _], _ => rfl) (fun f cdv A outer s H E ρ H0 hr => ?_) rfl fun _ _ _ h => h
  have hu := hr.units
  have hu1 : (cxD P w K mg base N_is_name_of "is_name_of" s_is_name_of f cdv A outer s H E).A.units + 1 < cLine := by have := hr.un; omega
  have hu5 : (cxD P w K mg base N_is_name_of "is_name_of" s_is_name_of f cdv A outer s H E).A.units + 65 < cLine := by have := hr.un; omega
  exact psd_one (psd_ret (pd_and (pd_isi bi (pd_var (pv 1)) (pd_ty rfl bi.int PyProof.Rows.boot_int)) (pd_and (pd_not (pd_isi bi (pd_var (pv 1)) (pd_ty rfl bi.bool PyProof.Rows.boot_bool))) (pd_one (pd_inD hu1 (pd_var (pv 1)) (pd_var (pv 0)))))))
theorem sc_f_keys_told : FnScope N_keys_told ["house", "kind", "names"] (defScope s_keys_told) := ⟨rfl, rfl, rfl, by decide +kernel, rfl, by decide +kernel, by decide +kernel⟩
theorem ok_keys_told {S_steps_to : DF} (G_steps_to : OkD P w K mg base T "steps_to" 1 2 S_steps_to) (F : Src K mg "keys_told" s_keys_told) (bi : Bi mg) : OkD P w K mg base T "keys_told" (1 + 1) 3 (defD 9 (b_keys_told S_steps_to)) := by
  have sc := sc_f_keys_told
  refine OkD.mk' (ps := ["house", "kind", "names"]) F sc (fun _ _ _ _ _ _ us hl => match us, hl with | [_, _, _], _ => rfl) (fun f cdv A outer s H E ρ H0 hr => ?_) rfl fun _ _ _ h => h
  have hu := hr.units
  have hu1 : (cxD P w K mg base N_keys_told "keys_told" s_keys_told f cdv A outer s H E).A.units + 1 < cLine := by have := hr.un; omega
  have hu5 : (cxD P w K mg base N_keys_told "keys_told" s_keys_told f cdv A outer s H E).A.units + 65 < cLine := by have := hr.un; omega
  exact psd_cons (psd_setF (ps_set (i := 3) sc.nd rfl (by first | exact Or.inl rfl | exact Or.inr rfl) (pd_dict rfl bi (pd_lc rfl sc.nd (pic_tup (pd_at (pd_var (pv 0)) (pd_int))) (own := [("thing", 7)]) (blkOk_of (N := N_keys_told) (sc := defScope s_keys_told) (by kernel_rfl)) (fun _ _ _ _ _ => pg_name (i := 7) sc.nd rfl (by first | exact Or.inl rfl | exact Or.inr rfl)) (fun _ _ _ _ _ => ptsd_nil) (fun _ _ _ _ _ => pd_tup (pda_cons (pd_at (pd_var (pv 7)) (pd_int)) (pda_cons (pd_var (pv 7)) (pda_nil)))))))) (psd_cons (psd_set (ps_set (i := 4) sc.nd rfl (by first | exact Or.inl rfl | exact Or.inr rfl) (pd_lst (pda_nil)))) (psd_cons (psd_for PassesOwn.never rfl (pif_tup (pd_var (pv 2))) (pg_name (i := 5) sc.nd rfl (by first | exact Or.inl rfl | exact Or.inr rfl)) (psd_cons (psd_setF (ps_set (i := 6) sc.nd rfl (by first | exact Or.inl rfl | exact Or.inr rfl) (pd_sub (pd_int) (pd_at (pd_atD hu1 (pd_var (pv 3)) (pd_var (pv 5))) (pd_int))))) (psd_cons (psd_if (ptd_eq hu (pd_at (pd_var (pv 1)) (pd_int)) (pd_str (by decide +kernel))) (psd_one (psd_setF (ps_set (i := 6) sc.nd rfl (by first | exact Or.inl rfl | exact Or.inr rfl) (pd_fn (G_steps_to.mono (by decide)) hr rfl (pda_cons (pd_lc rfl sc.nd (pic_tup (pd_at (pd_atD hu1 (pd_var (pv 3)) (pd_var (pv 5))) (pd_int))) (own := [("number", 8)]) (blkOk_of (N := N_keys_told) (sc := defScope s_keys_told) (by kernel_rfl)) (fun _ _ _ _ _ => pg_name (i := 8) sc.nd rfl (by first | exact Or.inl rfl | exact Or.inr rfl)) (fun _ _ _ _ _ => ptsd_nil) (fun _ _ _ _ _ => pd_tup (pda_cons (pd_var (pv 8)) (pda_cons (pd_var (pv 8)) (pda_nil))))) (pda_cons (pd_at (pd_var (pv 1)) (pd_int)) (pda_nil))))))) (psd_nil)) (psd_one (psd_app (ps_expr (pe_bm PySem.F.plainAttrs_list PySem.F.slot_list_append PySem.F.type_list_append mt_append (pv 4) (pa_cons (pd_tup (pda_cons (pd_var (pv 6)) (pda_cons (pd_var (pv 5)) (pda_nil)))) pa_nil)))))))) (psd_one (psd_retV (pv 4)))))
theorem sc_f_is_far : FnScope N_is_far ["worths", "tree", "part", "kind", "keys"] (defScope s_is_far) := ⟨rfl, rfl, rfl, by decide +kernel, rfl, by decide +kernel, by decide +kernel⟩
theorem ok_is_far {S_key_by : DF} (G_key_by : OkD P w K mg base T "key_by" 2 3 S_key_by) (F : Src K mg "is_far" s_is_far) (bi : Bi mg) : OkD P w K mg base T "is_far" (2 + 1) 5 (defD 5 (b_is_far S_key_by)) := by
  have sc := sc_f_is_far
  refine OkD.mk' (ps := ["worths", "tree", "part", "kind", "keys"]) F sc (fun _ _ _ _ _ _ us hl => match us, hl with | [_, _, _, _, _], _ => rfl) (fun f cdv A outer s H E ρ H0 hr => ?_) rfl fun _ _ _ h => h
  have hu := hr.units
  have hu1 : (cxD P w K mg base N_is_far "is_far" s_is_far f cdv A outer s H E).A.units + 1 < cLine := by have := hr.un; omega
  have hu5 : (cxD P w K mg base N_is_far "is_far" s_is_far f cdv A outer s H E).A.units + 65 < cLine := by have := hr.un; omega
  exact psd_cons (psd_if (PW.pt (pwd_or (ptd_ne hu (pd_len bi (pd_var (pv 2))) (pd_int)) (pwd_or1 (ptd_ne hu (pd_at (pd_var (pv 2)) (pd_int)) (pd_str (by decide +kernel)))))) (psd_one (psd_ret (pd_bl))) (psd_nil)) (psd_one (psd_ret (pd_or (pd_eq hu (pd_var (pv 4)) (pd_lst (pda_nil))) (pd_one (pd_gtD hu (pd_fn (G_key_by.mono (by decide)) hr rfl (pda_cons (pd_var (pv 0)) (pda_cons (pd_var (pv 1)) (pda_cons (pd_var (pv 3)) (pda_nil))))) (pd_at (pd_var (pv 4)) (pd_neg (pd_int))))))))
theorem sc_f_parts_show : FnScope N_parts_show ["house", "tree", "box", "kind", "keys", "parts"] (defScope s_parts_show) := ⟨rfl, rfl, rfl, by decide +kernel, rfl, by decide +kernel, by decide +kernel⟩
theorem ok_parts_show {S_worths_of : DF} {S_plain_box : DF} {S_there : DF} {S_is_in : DF} {S_is_out : DF} {S_is_far : DF} {S_has_each_once : DF} (G_worths_of : OkD P w K mg base T "worths_of" 1 1 S_worths_of) (G_plain_box : OkD P w K mg base T "plain_box" 3 1 S_plain_box) (G_there : OkD P w K mg base T "there" 3 2 S_there) (G_is_in : OkD P w K mg base T "is_in" 5 3 S_is_in) (G_is_out : OkD P w K mg base T "is_out" 2 3 S_is_out) (G_is_far : OkD P w K mg base T "is_far" 3 5 S_is_far) (G_has_each_once : OkD P w K mg base T "has_each_once" 1 2 S_has_each_once) (F : Src K mg "parts_show" s_parts_show) (bi : Bi mg) : OkD P w K mg base T "parts_show" (5 + 1) 6 (defD 15 (b_parts_show S_worths_of S_plain_box S_there S_is_in S_is_out S_is_far S_has_each_once)) := by
  have sc := sc_f_parts_show
  refine OkD.mk' (ps := ["house", "tree", "box", "kind", "keys", "parts"]) F sc (fun _ _ _ _ _ _ us hl => match us, hl with | [_, _, _, _, _, _], _ => rfl) (fun f cdv A outer s H E ρ H0 hr => ?_) rfl fun _ _ _ h => h
  have hu := hr.units
  have hu1 : (cxD P w K mg base N_parts_show "parts_show" s_parts_show f cdv A outer s H E).A.units + 1 < cLine := by have := hr.un; omega
  have hu5 : (cxD P w K mg base N_parts_show "parts_show" s_parts_show f cdv A outer s H E).A.units + 65 < cLine := by have := hr.un; omega
  exact psd_cons (psd_parF (by decide) (ps_par (i := 6) (j := 7) rfl sc.nd rfl rfl (by decide) rfl rfl (pa_cons (pd_fn (G_worths_of.mono (by decide)) hr rfl (pda_cons (pd_var (pv 0)) (pda_nil))) (pa_cons (pd_fn (G_plain_box.mono (by decide)) hr rfl (pda_cons (pd_var (pv 2)) (pda_nil))) pa_nil)) rfl)) (psd_cons (psd_setF (ps_lc (i := 8) rfl sc.nd rfl rfl (sw_true rfl rfl rfl rfl) (pic_list (pd_var (pv 4))) (own := [("far", 13), ("name", 14)]) (blkOk_of (N := N_parts_show) (sc := defScope s_parts_show) (by kernel_rfl)) (fun _ _ _ _ _ => pg_tup rfl (pgs_cons (pg_name (i := 13) sc.nd rfl (by first | exact Or.inl rfl | exact Or.inr rfl)) (pgs_cons (pg_name (i := 14) sc.nd rfl (by first | exact Or.inl rfl | exact Or.inr rfl)) (pgs_nil)))) (fun _ _ _ _ _ => ptsd_nil) (fun _ _ _ _ _ => pd_var (pv 14)))) (psd_cons (psd_setF (ps_lc (i := 9) rfl sc.nd rfl rfl (sw_true rfl rfl rfl rfl) (pic_tup (pd_var (pv 5))) (own := [("part", 12)]) (blkOk_of (N := N_parts_show) (sc := defScope s_parts_show) (by kernel_rfl)) (fun _ _ _ _ _ => pg_name (i := 12) sc.nd rfl (by first | exact Or.inl rfl | exact Or.inr rfl)) (fun _ _ _ _ _ => ptsd_nil) (fun _ _ _ _ _ => pd_fn (G_there.mono (by decide)) hr rfl (pda_cons (pd_var (pv 1)) (pda_cons (pd_var (pv 12)) (pda_nil)))))) (psd_cons (psd_if (ptd_inN hu5 (pd_non) (pd_var (pv 9))) (psd_one (psd_ret (pd_bl))) (psd_nil)) (psd_cons (psd_set (ps_set (i := 10) sc.nd rfl (by first | exact Or.inl rfl | exact Or.inr rfl) (pd_lst (pda_nil)))) (psd_cons (psd_for PassesOwn.never rfl (pif_zip rfl bi.zip (pv 9) (pv 5)) (pg_tup rfl (pgs_cons (pg_name (i := 11) sc.nd rfl (by first | exact Or.inl rfl | exact Or.inr rfl)) (pgs_cons (pg_name (i := 12) sc.nd rfl (by first | exact Or.inl rfl | exact Or.inr rfl)) (pgs_nil)))) (psd_one (psd_if (PW.pt (pwd_and (ptd_val (pd_fn (G_is_in.mono (by decide)) hr rfl (pda_cons (pd_var (pv 7)) (pda_cons (pd_var (pv 11)) (pda_cons (pd_var (pv 12)) (pda_nil)))))) (pwd_and1 (ptd_eq hu (pd_len bi (pd_at (pd_var (pv 11)) (pd_int))) (pd_int))))) (psd_one (psd_app (ps_expr (pe_bm PySem.F.plainAttrs_list PySem.F.slot_list_append PySem.F.type_list_append mt_append (pv 10) (pa_cons (pd_at (pd_at (pd_var (pv 11)) (pd_int)) (pd_int)) pa_nil))))) (psd_one (psd_if (PW.pt (pwd_and (ptd_not (ptd_val (pd_fn (G_is_out.mono (by decide)) hr rfl (pda_cons (pd_var (pv 7)) (pda_cons (pd_var (pv 11)) (pda_cons (pd_var (pv 12)) (pda_nil))))))) (pwd_and1 (ptd_not (ptd_val (pd_fn (G_is_far.mono (by decide)) hr rfl (pda_cons (pd_var (pv 6)) (pda_cons (pd_var (pv 11)) (pda_cons (pd_var (pv 12)) (pda_cons (pd_var (pv 3)) (pda_cons (pd_var (pv 4)) (pda_nil)))))))))))) (psd_one (psd_ret (pd_bl))) (psd_nil)))))) (psd_one (psd_ret (pd_and (pd_eq hu (pd_sorted hu bi (pd_var (pv 10))) (pd_sorted hu bi (pd_var (pv 8)))) (pd_one (pd_fn (G_has_each_once.mono (by decide)) hr rfl (pda_cons (pd_var (pv 1)) (pda_cons (pd_var (pv 9)) (pda_nil)))))))))))))
theorem sc_f_shows_drawn : FnScope N_shows_drawn ["house", "tree", "box", "kind", "k", "thing"] (defScope s_shows_drawn) := ⟨rfl, rfl, rfl, by decide +kernel, rfl, by decide +kernel, by decide +kernel⟩
theorem ok_shows_drawn {S_worths_of : DF} {S_is_name_of : DF} {S_keys_told : DF} {S_parts_show : DF} (G_worths_of : OkD P w K mg base T "worths_of" 1 1 S_worths_of) (G_is_name_of : OkD P w K mg base T "is_name_of" 1 2 S_is_name_of) (G_keys_told : OkD P w K mg base T "keys_told" 2 3 S_keys_told) (G_parts_show : OkD P w K mg base T "parts_show" 6 6 S_parts_show) (F : Src K mg "shows_drawn" s_shows_drawn) (bi : Bi mg) : OkD P w K mg base T "shows_drawn" (6 + 1) 6 (defD 14 (b_shows_drawn S_worths_of S_is_name_of S_keys_told S_parts_show)) := by
  have sc := sc_f_shows_drawn
  refine OkD.mk' (ps := ["house", "tree", "box", "kind", "k", "thing"]) F sc (fun _ _ _ _ _ _ us hl => match us, hl with | [_, _, _, _, _, _], _ => rfl) (fun f cdv A outer s H E ρ H0 hr => ?_) rfl fun _ _ _ h => h
  have hu := hr.units
  have hu1 : (cxD P w K mg base N_shows_drawn "shows_drawn" s_shows_drawn f cdv A outer s H E).A.units + 1 < cLine := by have := hr.un; omega
  have hu5 : (cxD P w K mg base N_shows_drawn "shows_drawn" s_shows_drawn f cdv A outer s H E).A.units + 65 < cLine := by have := hr.un; omega
  exact psd_cons (psd_if (PW.pt (pwd_or (ptd_not (ptd_val (pd_isi bi (pd_var (pv 5)) (pd_ty rfl bi.tuple PyProof.Rows.boot_tuple)))) (pwd_or1 (ptd_ne hu (pd_len bi (pd_var (pv 5))) (pd_int))))) (psd_one (psd_ret (pd_bl))) (psd_nil)) (psd_cons (psd_asg (ps_asg (pd_var (pv 5)) (pg_tup rfl (pgs_cons (pg_name (i := 6) sc.nd rfl (by first | exact Or.inl rfl | exact Or.inr rfl)) (pgs_cons (pg_name (i := 7) sc.nd rfl (by first | exact Or.inl rfl | exact Or.inr rfl)) (pgs_nil)))))) (psd_cons (psd_if (PW.pt (pwd_or (ptd_not (ptd_val (pd_isi bi (pd_var (pv 6)) (pd_ty rfl bi.tuple PyProof.Rows.boot_tuple)))) (pwd_or1 (ptd_not (ptd_val (pd_isi bi (pd_var (pv 7)) (pd_ty rfl bi.tuple PyProof.Rows.boot_tuple))))))) (psd_one (psd_ret (pd_bl))) (psd_nil)) (psd_cons (psd_setF (ps_set (i := 8) sc.nd rfl (by first | exact Or.inl rfl | exact Or.inr rfl) (pd_fn (G_worths_of.mono (by decide)) hr rfl (pda_cons (pd_var (pv 0)) (pda_nil))))) (psd_cons (psd_if (PW.pt (pwd_or (ptd_not (ptd_val (pd_all rfl bi (pd_lc rfl sc.nd (pic_tup (pd_var (pv 6))) (own := [("name", 10)]) (blkOk_of (N := N_shows_drawn) (sc := defScope s_shows_drawn) (by kernel_rfl)) (fun _ _ _ _ _ => pg_name (i := 10) sc.nd rfl (by first | exact Or.inl rfl | exact Or.inr rfl)) (fun _ _ _ _ _ => ptsd_nil) (fun _ _ _ _ _ => pd_fn (G_is_name_of.mono (by decide)) hr rfl (pda_cons (pd_var (pv 8)) (pda_cons (pd_var (pv 10)) (pda_nil)))))))) (pwd_or1 (ptd_gt (pd_len bi (pd_var (pv 6))) (pd_var (pv 4)))))) (psd_one (psd_ret (pd_bl))) (psd_nil)) (psd_cons (psd_setF (ps_set (i := 9) sc.nd rfl (by first | exact Or.inl rfl | exact Or.inr rfl) (pd_fn (G_keys_told.mono (by decide)) hr rfl (pda_cons (pd_var (pv 0)) (pda_cons (pd_var (pv 3)) (pda_cons (pd_var (pv 6)) (pda_nil))))))) (psd_cons (psd_if (ptd_not (ptd_val (pd_all rfl bi (pd_lc rfl sc.nd (pic_zip rfl bi.zip (pd_var (pv 9)) (pd_slL (pd_var (pv 9)) (pdo_some (pd_int)) (pdo_none))) (own := [("one", 11), ("other", 12)]) (blkOk_of (N := N_shows_drawn) (sc := defScope s_shows_drawn) (by kernel_rfl)) (fun _ _ _ _ _ => pg_tup rfl (pgs_cons (pg_name (i := 11) sc.nd rfl (by first | exact Or.inl rfl | exact Or.inr rfl)) (pgs_cons (pg_name (i := 12) sc.nd rfl (by first | exact Or.inl rfl | exact Or.inr rfl)) (pgs_nil)))) (fun _ _ _ _ _ => ptsd_nil) (fun _ _ _ _ _ => pd_ltD hu (pd_var (pv 11)) (pd_var (pv 12))))))) (psd_one (psd_ret (pd_bl))) (psd_nil)) (psd_cons (psd_if (ptd_isN (pd_var (pv 1))) (psd_one (psd_ret (pd_eq hu (pd_len bi (pd_var (pv 7))) (pd_int)))) (psd_nil)) (psd_cons (psd_if (ptd_not (ptd_val (pd_fn (G_parts_show.mono (by decide)) hr rfl (pda_cons (pd_var (pv 0)) (pda_cons (pd_var (pv 1)) (pda_cons (pd_var (pv 2)) (pda_cons (pd_var (pv 3)) (pda_cons (pd_var (pv 9)) (pda_cons (pd_var (pv 7)) (pda_nil)))))))))) (psd_one (psd_ret (pd_bl))) (psd_nil)) (psd_one (psd_ret (pd_or (pd_eq hu (pd_len bi (pd_var (pv 6))) (pd_var (pv 4))) (pd_one (pd_notin (pd_str (by decide +kernel)) (pd_lc rfl sc.nd (pic_tup (pd_var (pv 7))) (own := [("part", 13)]) (blkOk_of (N := N_shows_drawn) (sc := defScope s_shows_drawn) (by kernel_rfl)) (fun _ _ _ _ _ => pg_name (i := 13) sc.nd rfl (by first | exact Or.inl rfl | exact Or.inr rfl)) (fun _ _ _ _ _ => ptsd_nil) (fun _ _ _ _ _ => pd_at (pd_var (pv 13)) (pd_int))))))))))))))))
theorem sc_f__law_left : FnScope N__law_left ["_law_script", "_law_k"] (defScope s__law_left) := ⟨rfl, rfl, rfl, by decide +kernel, rfl, by decide +kernel, by decide +kernel⟩
theorem ok__law_left   (F : Src K mg "_law_left" s__law_left) (bi : Bi mg) : OkD P w K mg base T "_law_left" (0 + 1) 2 (defD 4 (b__law_left )) := by
  have sc := sc_f__law_left
  refine OkD.mk' (ps := ["_law_script", "_law_k"]) F sc (fun _ _ _ _ _ _ us hl => match us, hl with | [_, _], _ => rfl) (fun f cdv A outer s H E ρ H0 hr => ?_) rfl fun _ _ _ h => h
  have hu := hr.units
  have hu1 : (cxD P w K mg base N__law_left "_law_left" s__law_left f cdv A outer s H E).A.units + 1 < cLine := by have := hr.un; omega
  have hu5 : (cxD P w K mg base N__law_left "_law_left" s__law_left f cdv A outer s H E).A.units + 65 < cLine := by have := hr.un; omega
  exact psd_cons (psd_setF (ps_set (i := 2) sc.nd rfl (by first | exact Or.inl rfl | exact Or.inr rfl) (pd_int))) (psd_cons (psd_if (ptd_gt (pd_len bi (pd_var (pv 0))) (pd_int)) (psd_one (psd_setF (ps_set (i := 2) sc.nd rfl (by first | exact Or.inl rfl | exact Or.inr rfl) (pd_at (pd_var (pv 0)) (pd_mod (pd_var (pv 1)) (pd_len bi (pd_var (pv 0)))))))) (psd_nil)) (psd_cons (psd_setF (ps_set (i := 3) sc.nd rfl (by first | exact Or.inl rfl | exact Or.inr rfl) (pd_mul (pd_mod (pd_abs bi (pd_var (pv 2))) (pd_pow (pd_int) (pd_int))) (pd_intc bi (pd_ge (pd_abs bi (pd_var (pv 2))) (pd_pow (pd_int) (pd_int))))))) (psd_one (psd_ret (pd_lst (pda_cons (pd_var (pv 3)) (pda_cons (pd_mod (pd_mul (pd_add (pd_add (pd_mod (pd_var (pv 2)) (pd_int)) (pd_mul (pd_mul (pd_int) (pd_var (pv 1))) (pd_var (pv 1)))) (pd_int)) (pd_int)) (pd_int)) (pda_cons (pd_int) (pda_nil)))))))))
theorem sc_f__law_house : FnScope N__law_house ["_law_left_here"] (defScope s__law_house) := ⟨rfl, rfl, rfl, by decide +kernel, rfl, by decide +kernel, by decide +kernel⟩
theorem ok__law_house {S__law_pick : DF} (G__law_pick : OkD P w K mg base T "_law_pick" 1 2 S__law_pick) (F : Src K mg "_law_house" s__law_house) (bi : Bi mg) : OkD P w K mg base T "_law_house" (1 + 1) 1 (defD 10 (b__law_house S__law_pick)) := by
  have sc := sc_f__law_house
  refine OkD.mk' (ps := ["_law_left_here"]) F sc (fun _ _ _ _ _ _ us hl => match us, hl with | [_], _ => rfl) (fun f cdv A outer s H E ρ H0 hr => ?_) rfl fun _ _ _ h => h
  have hu := hr.units
  have hu1 : (cxD P w K mg base N__law_house "_law_house" s__law_house f cdv A outer s H E).A.units + 1 < cLine := by have := hr.un; omega
  have hu5 : (cxD P w K mg base N__law_house "_law_house" s__law_house f cdv A outer s H E).A.units + 65 < cLine := by have := hr.un; omega
  exact psd_cons (psd_setF (ps_set (i := 1) sc.nd rfl (by first | exact Or.inl rfl | exact Or.inr rfl) (pd_at (pd_lst (pda_cons (pd_int) (pda_cons (pd_int) (pda_cons (pd_int) (pda_cons (pd_int) (pda_cons (pd_int) (pda_cons (pd_int) (pda_nil)))))))) (pd_fn (G__law_pick.mono (by decide)) hr rfl (pda_cons (pd_var (pv 0)) (pda_cons (pd_int) (pda_nil))))))) (psd_cons (psd_asg (ps_asg (pd_tup (pda_cons (pd_at (pd_lst (pda_cons (pd_int) (pda_cons (pd_int) (pda_cons (pd_int) (pda_cons (pd_int) (pda_cons (pd_int) (pda_cons (pd_int) (pda_nil)))))))) (pd_fn (G__law_pick.mono (by decide)) hr rfl (pda_cons (pd_var (pv 0)) (pda_cons (pd_int) (pda_nil))))) (pda_cons (pd_at (pd_lst (pda_cons (pd_int) (pda_cons (pd_int) (pda_cons (pd_int) (pda_cons (pd_pow (pd_int) (pd_int)) (pda_nil)))))) (pd_fn (G__law_pick.mono (by decide)) hr rfl (pda_cons (pd_var (pv 0)) (pda_cons (pd_int) (pda_nil))))) (pda_nil)))) (pg_tup rfl (pgs_cons (pg_name (i := 2) sc.nd rfl (by first | exact Or.inl rfl | exact Or.inr rfl)) (pgs_cons (pg_name (i := 3) sc.nd rfl (by first | exact Or.inl rfl | exact Or.inr rfl)) (pgs_nil)))))) (psd_cons (psd_par (by decide) (ps_par (i := 4) (j := 5) rfl sc.nd rfl rfl (by decide) rfl rfl (pa_cons (pd_lst (pda_nil)) (pa_cons (pd_fn (G__law_pick.mono (by decide)) hr rfl (pda_cons (pd_var (pv 0)) (pda_cons (pd_int) (pda_nil)))) pa_nil)) rfl)) (psd_cons (psd_for PassesOwn.never rfl (pif_range rfl bi.range (pd_at (pd_lst (pda_cons (pd_int) (pda_cons (pd_int) (pda_cons (pd_int) (pda_cons (pd_int) (pda_cons (pd_int) (pda_cons (pd_int) (pda_cons (pd_int) (pda_cons (pd_int) (pda_cons (pd_int) (pda_cons (pd_int) (pda_nil)))))))))))) (pd_fn (G__law_pick.mono (by decide)) hr rfl (pda_cons (pd_var (pv 0)) (pda_cons (pd_int) (pda_nil)))))) (pg_name (i := 6) sc.nd rfl (by first | exact Or.inl rfl | exact Or.inr rfl)) (psd_cons (psd_setF (ps_set (i := 7) sc.nd rfl (by first | exact Or.inl rfl | exact Or.inr rfl) (pd_tuple bi (pd_lc rfl sc.nd (pic_range rfl bi.range (pd_var (pv 1))) (own := [("_law_i", 9)]) (blkOk_of (N := N__law_house) (sc := defScope s__law_house) (by kernel_rfl)) (fun _ _ _ _ _ => pg_name (i := 9) sc.nd rfl (by first | exact Or.inl rfl | exact Or.inr rfl)) (fun _ _ _ _ _ => ptsd_nil) (fun _ _ _ _ _ => pd_mul (pd_sub (pd_fn (G__law_pick.mono (by decide)) hr rfl (pda_cons (pd_var (pv 0)) (pda_cons (pd_add (pd_mul (pd_int) (pd_var (pv 2))) (pd_int)) (pda_nil)))) (pd_var (pv 2))) (pd_var (pv 3))))))) (psd_cons (psd_if (PW.pt (pwd_and (ptd_ne hu (pd_var (pv 4)) (pd_lst (pda_nil))) (pwd_and1 (ptd_eq hu (pd_fn (G__law_pick.mono (by decide)) hr rfl (pda_cons (pd_var (pv 0)) (pda_cons (pd_int) (pda_nil)))) (pd_int))))) (psd_one (psd_setF (ps_set (i := 7) sc.nd rfl (by first | exact Or.inl rfl | exact Or.inr rfl) (pd_at (pd_at (pd_var (pv 4)) (pd_fn (G__law_pick.mono (by decide)) hr rfl (pda_cons (pd_var (pv 0)) (pda_cons (pd_len bi (pd_var (pv 4))) (pda_nil))))) (pd_int))))) (psd_nil)) (psd_cons (psd_setF (ps_set (i := 8) sc.nd rfl (by first | exact Or.inl rfl | exact Or.inr rfl) (pd_at (pd_lst (pda_cons (pd_pow (pd_int) (pd_int)) (pda_cons (pd_neg (pd_pow (pd_int) (pd_int))) (pda_nil)))) (pd_fn (G__law_pick.mono (by decide)) hr rfl (pda_cons (pd_var (pv 0)) (pda_cons (pd_int) (pda_nil))))))) (psd_cons (psd_app (ps_expr (pe_bm PySem.F.plainAttrs_list PySem.F.slot_list_append PySem.F.type_list_append mt_append (pv 4) (pa_cons (pd_tup (pda_cons (pd_var (pv 5)) (pda_cons (pd_var (pv 7)) (pda_cons (pd_at (pd_lst (pda_cons (pd_sub (pd_fn (G__law_pick.mono (by decide)) hr rfl (pda_cons (pd_var (pv 0)) (pda_cons (pd_int) (pda_nil)))) (pd_int)) (pda_cons (pd_sub (pd_fn (G__law_pick.mono (by decide)) hr rfl (pda_cons (pd_var (pv 0)) (pda_cons (pd_int) (pda_nil)))) (pd_int)) (pda_cons (pd_var (pv 8)) (pda_nil))))) (pd_fn (G__law_pick.mono (by decide)) hr rfl (pda_cons (pd_var (pv 0)) (pda_cons (pd_int) (pda_nil))))) (pda_nil))))) pa_nil)))) (psd_one (psd_setF (ps_set (i := 5) sc.nd rfl (by first | exact Or.inl rfl | exact Or.inr rfl) (pd_add (pd_add (pd_var (pv 5)) (pd_int)) (pd_at (pd_lst (pda_cons (pd_int) (pda_cons (pd_int) (pda_cons (pd_int) (pda_cons (pd_int) (pda_cons (pd_int) (pda_nil))))))) (pd_fn (G__law_pick.mono (by decide)) hr rfl (pda_cons (pd_var (pv 0)) (pda_cons (pd_int) (pda_nil)))))))))))))) (psd_one (psd_ret (pd_tup (pda_cons (pd_var (pv 1)) (pda_cons (pd_tuple bi (pd_var (pv 4))) (pda_nil)))))))))
theorem sc_f__law_number : FnScope N__law_number ["_law_left_here", "_law_house_here", "_law_i"] (defScope s__law_number) := ⟨rfl, rfl, rfl, by decide +kernel, rfl, by decide +kernel, by decide +kernel⟩
theorem ok__law_number {S__law_pick : DF} (G__law_pick : OkD P w K mg base T "_law_pick" 1 2 S__law_pick) (F : Src K mg "_law_number" s__law_number) (bi : Bi mg) : OkD P w K mg base T "_law_number" (1 + 1) 3 (defD 5 (b__law_number S__law_pick)) := by
  have sc := sc_f__law_number
  refine OkD.mk' (ps := ["_law_left_here", "_law_house_here", "_law_i"]) F sc (fun _ _ _ _ _ _ us hl => match us, hl with | [_, _, _], _ => rfl) (fun f cdv A outer s H E ρ H0 hr => ?_) rfl fun _ _ _ h => h
  have hu := hr.units
  have hu1 : (cxD P w K mg base N__law_number "_law_number" s__law_number f cdv A outer s H E).A.units + 1 < cLine := by have := hr.un; omega
  have hu5 : (cxD P w K mg base N__law_number "_law_number" s__law_number f cdv A outer s H E).A.units + 65 < cLine := by have := hr.un; omega
  exact psd_cons (psd_setF (ps_set (i := 3) sc.nd rfl (by first | exact Or.inl rfl | exact Or.inr rfl) (pd_cat (pd_lc rfl sc.nd (pic_tup (pd_at (pd_var (pv 1)) (pd_int))) (own := [("_law_thing", 4)]) (blkOk_of (N := N__law_number) (sc := defScope s__law_number) (by kernel_rfl)) (fun _ _ _ _ _ => pg_name (i := 4) sc.nd rfl (by first | exact Or.inl rfl | exact Or.inr rfl)) (fun _ _ _ _ _ => ptsd_nil) (fun _ _ _ _ _ => pd_at (pd_at (pd_var (pv 4)) (pd_int)) (pd_var (pv 2)))) (pd_lst (pda_cons (pd_int) (pda_nil)))))) (psd_one (psd_ret (pd_add (pd_at (pd_var (pv 3)) (pd_fn (G__law_pick.mono (by decide)) hr rfl (pda_cons (pd_var (pv 0)) (pda_cons (pd_len bi (pd_var (pv 3))) (pda_nil))))) (pd_at (pd_lst (pda_cons (pd_int) (pda_cons (pd_int) (pda_cons (pd_int) (pda_cons (pd_int) (pda_cons (pd_neg (pd_int)) (pda_cons (pd_int) (pda_nil)))))))) (pd_fn (G__law_pick.mono (by decide)) hr rfl (pda_cons (pd_var (pv 0)) (pda_cons (pd_int) (pda_nil))))))))
theorem sc_f__law_box : FnScope N__law_box ["_law_left_here", "_law_house_here"] (defScope s__law_box) := ⟨rfl, rfl, rfl, by decide +kernel, rfl, by decide +kernel, by decide +kernel⟩
theorem ok__law_box {S__law_number : DF} {S__law_pick : DF} (G__law_number : OkD P w K mg base T "_law_number" 2 3 S__law_number) (G__law_pick : OkD P w K mg base T "_law_pick" 1 2 S__law_pick) (F : Src K mg "_law_box" s__law_box) (bi : Bi mg) : OkD P w K mg base T "_law_box" (2 + 1) 2 (defD 7 (b__law_box S__law_number S__law_pick)) := by
  have sc := sc_f__law_box
  refine OkD.mk' (ps := ["_law_left_here", "_law_house_here"]) F sc (fun _ _ _ _ _ _ us hl => match us, hl with | [_, _], _ => rfl) (fun f cdv A outer s H E ρ H0 hr => ?_) rfl fun _ _ _ h => h
  have hu := hr.units
  have hu1 : (cxD P w K mg base N__law_box "_law_box" s__law_box f cdv A outer s H E).A.units + 1 < cLine := by have := hr.un; omega
  have hu5 : (cxD P w K mg base N__law_box "_law_box" s__law_box f cdv A outer s H E).A.units + 65 < cLine := by have := hr.un; omega
  exact psd_cons (psd_set (ps_set (i := 2) sc.nd rfl (by first | exact Or.inl rfl | exact Or.inr rfl) (pd_lst (pda_nil)))) (psd_cons (psd_for PassesOwn.never rfl (pif_range rfl bi.range (pd_at (pd_var (pv 1)) (pd_int))) (pg_name (i := 3) sc.nd rfl (by first | exact Or.inl rfl | exact Or.inr rfl)) (psd_cons (psd_parF (by decide) (ps_par (i := 4) (j := 5) rfl sc.nd rfl rfl (by decide) rfl rfl (pa_cons (pd_fn (G__law_number.mono (by decide)) hr rfl (pda_cons (pd_var (pv 0)) (pda_cons (pd_var (pv 1)) (pda_cons (pd_var (pv 3)) (pda_nil))))) (pa_cons (pd_fn (G__law_number.mono (by decide)) hr rfl (pda_cons (pd_var (pv 0)) (pda_cons (pd_var (pv 1)) (pda_cons (pd_var (pv 3)) (pda_nil))))) pa_nil)) rfl)) (psd_cons (psd_if (PW.pt (pwd_and (ptd_gt (pd_var (pv 4)) (pd_var (pv 5))) (pwd_and1 (ptd_gt (pd_fn (G__law_pick.mono (by decide)) hr rfl (pda_cons (pd_var (pv 0)) (pda_cons (pd_int) (pda_nil)))) (pd_int))))) (psd_one (psd_parF (by decide) (ps_par (i := 4) (j := 5) rfl sc.nd rfl rfl (by decide) rfl rfl (pa_cons (pd_var (pv 5)) (pa_cons (pd_var (pv 4)) pa_nil)) rfl))) (psd_nil)) (psd_cons (psd_setF (ps_set (i := 6) sc.nd rfl (by first | exact Or.inl rfl | exact Or.inr rfl) (pd_at (pd_lst (pda_cons (pd_non) (pda_cons (pd_tup (pda_cons (pd_var (pv 4)) (pda_cons (pd_bl) (pda_nil)))) (pda_cons (pd_tup (pda_cons (pd_var (pv 4)) (pda_cons (pd_bl) (pda_nil)))) (pda_cons (pd_tup (pda_cons (pd_var (pv 4)) (pda_cons (pd_bl) (pda_nil)))) (pda_nil)))))) (pd_fn (G__law_pick.mono (by decide)) hr rfl (pda_cons (pd_var (pv 0)) (pda_cons (pd_int) (pda_nil))))))) (psd_one (psd_app (ps_expr (pe_bm PySem.F.plainAttrs_list PySem.F.slot_list_append PySem.F.type_list_append mt_append (pv 2) (pa_cons (pd_tup (pda_cons (pd_var (pv 6)) (pda_cons (pd_at (pd_lst (pda_cons (pd_non) (pda_cons (pd_tup (pda_cons (pd_var (pv 5)) (pda_cons (pd_bl) (pda_nil)))) (pda_cons (pd_tup (pda_cons (pd_var (pv 5)) (pda_cons (pd_bl) (pda_nil)))) (pda_cons (pd_tup (pda_cons (pd_var (pv 5)) (pda_cons (pd_bl) (pda_nil)))) (pda_nil)))))) (pd_fn (G__law_pick.mono (by decide)) hr rfl (pda_cons (pd_var (pv 0)) (pda_cons (pd_int) (pda_nil))))) (pda_nil)))) pa_nil))))))))) (psd_one (psd_ret (pd_tuple bi (pd_var (pv 2))))))
theorem sc_f__law_kind : FnScope N__law_kind ["_law_left_here", "_law_house_here"] (defScope s__law_kind) := ⟨rfl, rfl, rfl, by decide +kernel, rfl, by decide +kernel, by decide +kernel⟩
theorem ok__law_kind {S__law_number : DF} {S__law_pick : DF} (G__law_number : OkD P w K mg base T "_law_number" 2 3 S__law_number) (G__law_pick : OkD P w K mg base T "_law_pick" 1 2 S__law_pick) (F : Src K mg "_law_kind" s__law_kind) (bi : Bi mg) : OkD P w K mg base T "_law_kind" (2 + 1) 2 (defD 4 (b__law_kind S__law_number S__law_pick)) := by
  have sc := sc_f__law_kind
  refine OkD.mk' (ps := ["_law_left_here", "_law_house_here"]) F sc (fun _ _ _ _ _ _ us hl => match us, hl with | [_, _], _ => rfl) (fun f cdv A outer s H E ρ H0 hr => ?_) rfl fun _ _ _ h => h
  have hu := hr.units
  have hu1 : (cxD P w K mg base N__law_kind "_law_kind" s__law_kind f cdv A outer s H E).A.units + 1 < cLine := by have := hr.un; omega
  have hu5 : (cxD P w K mg base N__law_kind "_law_kind" s__law_kind f cdv A outer s H E).A.units + 65 < cLine := by have := hr.un; omega
  exact psd_cons (psd_setF (ps_set (i := 2) sc.nd rfl (by first | exact Or.inl rfl | exact Or.inr rfl) (pd_tuple bi (pd_lc rfl sc.nd (pic_range rfl bi.range (pd_at (pd_var (pv 1)) (pd_int))) (own := [("_law_i", 3)]) (blkOk_of (N := N__law_kind) (sc := defScope s__law_kind) (by kernel_rfl)) (fun _ _ _ _ _ => pg_name (i := 3) sc.nd rfl (by first | exact Or.inl rfl | exact Or.inr rfl)) (fun _ _ _ _ _ => ptsd_nil) (fun _ _ _ _ _ => pd_fn (G__law_number.mono (by decide)) hr rfl (pda_cons (pd_var (pv 0)) (pda_cons (pd_var (pv 1)) (pda_cons (pd_var (pv 3)) (pda_nil))))))))) (psd_one (psd_ret (pd_at (pd_lst (pda_cons (pd_tup (pda_cons (pd_str (by decide +kernel)) (pda_nil))) (pda_cons (pd_tup (pda_cons (pd_str (by decide +kernel)) (pda_cons (pd_var (pv 2)) (pda_nil)))) (pda_cons (pd_tup (pda_cons (pd_str (by decide +kernel)) (pda_cons (pd_var (pv 2)) (pda_nil)))) (pda_nil))))) (pd_fn (G__law_pick.mono (by decide)) hr rfl (pda_cons (pd_var (pv 0)) (pda_cons (pd_int) (pda_nil)))))))
theorem sc_f__law_bounds : FnScope N__law_bounds ["_law_things"] (defScope s__law_bounds) := ⟨rfl, rfl, rfl, by decide +kernel, rfl, by decide +kernel, by decide +kernel⟩
theorem ok__law_bounds   (F : Src K mg "_law_bounds" s__law_bounds) (bi : Bi mg) : OkD P w K mg base T "_law_bounds" (0 + 1) 1 (defD 7 (b__law_bounds )) := by
  have sc := sc_f__law_bounds
  refine OkD.mk' (ps := ["_law_things"]) F sc (fun _ _ _ _ _ _ us hl => match us, hl with | [_], _ => rfl) (fun f cdv A outer s H E ρ H0 hr => ?_) rfl fun _ _ _ h => h
  have hu := hr.units
  have hu1 : (cxD P w K mg base N__law_bounds "_law_bounds" s__law_bounds f cdv A outer s H E).A.units + 1 < cLine := by have := hr.un; omega
  have hu5 : (cxD P w K mg base N__law_bounds "_law_bounds" s__law_bounds f cdv A outer s H E).A.units + 65 < cLine := by have := hr.un; omega
  exact psd_cons (psd_setF (ps_lc (i := 1) rfl sc.nd rfl rfl (sw_true rfl rfl rfl rfl) (pic_list (pd_var (pv 0))) (own := [("_law_thing", 5)]) (blkOk_of (N := N__law_bounds) (sc := defScope s__law_bounds) (by kernel_rfl)) (fun _ _ _ _ _ => pg_name (i := 5) sc.nd rfl (by first | exact Or.inl rfl | exact Or.inr rfl)) (fun _ _ _ _ _ => ptsd_nil) (fun _ _ _ _ _ => pd_at (pd_var (pv 5)) (pd_int)))) (psd_cons (psd_set (ps_set (i := 2) sc.nd rfl (by first | exact Or.inl rfl | exact Or.inr rfl) (pd_lst (pda_nil)))) (psd_cons (psd_for PassesOwn.never rfl (pif_range rfl bi.range (pd_len bi (pd_at (pd_var (pv 1)) (pd_int)))) (pg_name (i := 3) sc.nd rfl (by first | exact Or.inl rfl | exact Or.inr rfl)) (psd_cons (psd_setF (ps_lc (i := 4) rfl sc.nd rfl rfl (sw_true rfl rfl rfl rfl) (pic_list (pd_var (pv 1))) (own := [("_law_place", 6)]) (blkOk_of (N := N__law_bounds) (sc := defScope s__law_bounds) (by kernel_rfl)) (fun _ _ _ _ _ => pg_name (i := 6) sc.nd rfl (by first | exact Or.inl rfl | exact Or.inr rfl)) (fun _ _ _ _ _ => ptsd_nil) (fun _ _ _ _ _ => pd_at (pd_var (pv 6)) (pd_var (pv 3))))) (psd_one (psd_app (ps_expr (pe_bm PySem.F.plainAttrs_list PySem.F.slot_list_append PySem.F.type_list_append mt_append (pv 2) (pa_cons (pd_tup (pda_cons (pd_minL rfl bi (pd_var (pv 4))) (pda_cons (pd_maxL rfl bi (pd_var (pv 4))) (pda_nil)))) pa_nil))))))) (psd_one (psd_ret (pd_tuple bi (pd_var (pv 2)))))))
theorem sc_f__law_grown : FnScope N__law_grown ["_law_left_here", "_law_d", "_law_things", "_law_turn"] (defScope s__law_grown) := ⟨rfl, rfl, rfl, by decide +kernel, rfl, by decide +kernel, by decide +kernel⟩
theorem ok__law_grown {k : Nat} (hk : 2 ≤ k) {S__law_bounds : DF} {S__law_pick : DF} {S__law_grown : DF} (G__law_bounds : OkD P w K mg base T "_law_bounds" 1 1 S__law_bounds) (G__law_pick : OkD P w K mg base T "_law_pick" 1 2 S__law_pick) (G__law_grown : OkD P w K mg base T "_law_grown" k 4 S__law_grown) {c Pt : Addr} (F : SrcC K mg "_law_grown" s__law_grown c) (bi : Bi mg) (TB : TabB base mg c Pt) (hmT : (Pt, qL) ∈ T) (huT : ∀ p ∈ T, p.1 = Pt → p.2 = qL) : OkD P w K mg base T "_law_grown" (k + 1) 4 (defD 10 (b__law_grown S__law_bounds S__law_pick S__law_grown)) := by
  have sc := sc_f__law_grown
  refine OkD.mkC (ps := ["_law_left_here", "_law_d", "_law_things", "_law_turn"]) F sc (fun _ _ _ _ _ _ us hl => match us, hl with | [_, _, _, _], _ => rfl) (fun f A outer s H E ρ H0 hr => ?_) rfl fun _ _ _ h => h
  have hu := hr.units
  have hu1 : (cxD P w K mg base N__law_grown "_law_grown" s__law_grown f (.ref c) A outer s H E).A.units + 1 < cLine := by have := hr.un; omega
  have hu5 : (cxD P w K mg base N__law_grown "_law_grown" s__law_grown f (.ref c) A outer s H E).A.units + 65 < cLine := by have := hr.un; omega
  exact psd_cons (psd_setF (ps_set (i := 4) sc.nd rfl (by first | exact Or.inl rfl | exact Or.inr rfl) (pd_tuple bi (pd_sorted hu bi (pd_lc rfl sc.nd (pic_list (pd_var (pv 2))) (own := [("_law_thing", 9)]) (blkOk_of (N := N__law_grown) (sc := defScope s__law_grown) (by kernel_rfl)) (fun _ _ _ _ _ => pg_name (i := 9) sc.nd rfl (by first | exact Or.inl rfl | exact Or.inr rfl)) (fun _ _ _ _ _ => ptsd_nil) (fun _ _ _ _ _ => pd_at (pd_var (pv 9)) (pd_int))))))) (psd_cons (psd_if (ptd_eq hu (pd_len bi (pd_var (pv 2))) (pd_int)) (psd_one (psd_ret (pd_tup (pda_cons (pd_var (pv 4)) (pda_cons (pd_fn (G__law_bounds.mono (by omega)) hr rfl (pda_cons (pd_var (pv 2)) (pda_nil))) (pda_cons (pd_non) (pda_cons (pd_non) (pda_nil)))))))) (psd_nil)) (psd_cons (psd_setF (ps_set (i := 5) sc.nd rfl (by first | exact Or.inl rfl | exact Or.inr rfl) (pd_at (pd_lst (pda_cons (pd_mod (pd_var (pv 3)) (pd_var (pv 1))) (pda_cons (pd_fn (G__law_pick.mono (by omega)) hr rfl (pda_cons (pd_var (pv 0)) (pda_cons (pd_var (pv 1)) (pda_nil)))) (pda_nil)))) (pd_fn (G__law_pick.mono (by omega)) hr rfl (pda_cons (pd_var (pv 0)) (pda_cons (pd_int) (pda_nil))))))) (psd_cons (psd_setF (ps_set (i := 6) sc.nd rfl (by first | exact Or.inl rfl | exact Or.inr rfl) (pd_sortL hr bi TB rfl hmT huT (pd_var (pv 2)) (j := 5) rfl rfl ⟨rfl, rfl, rfl, by decide +kernel, by rfl, by rfl, by decide +kernel⟩))) (psd_cons (psd_if (ptd_eq hu (pd_fn (G__law_pick.mono (by omega)) hr rfl (pda_cons (pd_var (pv 0)) (pda_cons (pd_int) (pda_nil)))) (pd_int)) (psd_one (psd_setF (ps_set (i := 6) sc.nd rfl (by first | exact Or.inl rfl | exact Or.inr rfl) (pd_cat (pd_sl2 (odd := true) (pd_var (pv 6)) po_one) (pd_sl2 (odd := false) (pd_var (pv 6)) po_non))))) (psd_nil)) (psd_cons (psd_setF (ps_set (i := 7) sc.nd rfl (by first | exact Or.inl rfl | exact Or.inr rfl) (pd_at (pd_lst (pda_cons (pd_fdiv (pd_add (pd_len bi (pd_var (pv 6))) (pd_int)) (pd_int)) (pda_cons (pd_add (pd_int) (pd_fn (G__law_pick.mono (by omega)) hr rfl (pda_cons (pd_var (pv 0)) (pda_cons (pd_sub (pd_len bi (pd_var (pv 6))) (pd_int)) (pda_nil))))) (pda_nil)))) (pd_fn (G__law_pick.mono (by omega)) hr rfl (pda_cons (pd_var (pv 0)) (pda_cons (pd_int) (pda_nil))))))) (psd_cons (psd_setF (ps_set (i := 8) sc.nd rfl (by first | exact Or.inl rfl | exact Or.inr rfl) (pd_fn G__law_grown hr rfl (pda_cons (pd_var (pv 0)) (pda_cons (pd_var (pv 1)) (pda_cons (pd_slL (pd_var (pv 6)) (pdo_none) (pdo_some (pd_var (pv 7)))) (pda_cons (pd_add (pd_var (pv 3)) (pd_int)) (pda_nil)))))))) (psd_one (psd_ret (pd_tup (pda_cons (pd_var (pv 4)) (pda_cons (pd_fn (G__law_bounds.mono (by omega)) hr rfl (pda_cons (pd_var (pv 2)) (pda_nil))) (pda_cons (pd_var (pv 8)) (pda_cons (pd_fn G__law_grown hr rfl (pda_cons (pd_var (pv 0)) (pda_cons (pd_var (pv 1)) (pda_cons (pd_slL (pd_var (pv 6)) (pdo_some (pd_var (pv 7))) (pdo_none)) (pda_cons (pd_add (pd_var (pv 3)) (pd_int)) (pda_nil)))))) (pda_nil))))))))))))))
theorem sc_f__law_tree : FnScope N__law_tree ["_law_left_here", "_law_house_here"] (defScope s__law_tree) := ⟨rfl, rfl, rfl, by decide +kernel, rfl, by decide +kernel, by decide +kernel⟩
theorem ok__law_tree {S__law_grown : DF} (G__law_grown : OkD P w K mg base T "_law_grown" 33 4 S__law_grown) (F : Src K mg "_law_tree" s__law_tree) (bi : Bi mg) : OkD P w K mg base T "_law_tree" (33 + 1) 2 (defD 2 (b__law_tree S__law_grown)) := by
  have sc := sc_f__law_tree
  refine OkD.mk' (ps := ["_law_left_here", "_law_house_here"]) F sc (fun _ _ _ _ _ _ us hl => match us, hl with | [_, _], _ => rfl) (fun f cdv A outer s H E ρ H0 hr => ?_) rfl fun _ _ _ h => h
  have hu := hr.units
  have hu1 : (cxD P w K mg base N__law_tree "_law_tree" s__law_tree f cdv A outer s H E).A.units + 1 < cLine := by have := hr.un; omega
  have hu5 : (cxD P w K mg base N__law_tree "_law_tree" s__law_tree f cdv A outer s H E).A.units + 65 < cLine := by have := hr.un; omega
  exact psd_cons (psd_if (ptd_eq hu (pd_at (pd_var (pv 1)) (pd_int)) (pd_tup (pda_nil))) (psd_one (psd_ret (pd_non))) (psd_nil)) (psd_one (psd_ret (pd_fn (G__law_grown.mono (by decide)) hr rfl (pda_cons (pd_var (pv 0)) (pda_cons (pd_at (pd_var (pv 1)) (pd_int)) (pda_cons (pd_list bi (pd_at (pd_var (pv 1)) (pd_int))) (pda_cons (pd_int) (pda_nil))))))))
theorem sc_f__law_plain : FnScope N__law_plain ["_law_box_here"] (defScope s__law_plain) := ⟨rfl, rfl, rfl, by decide +kernel, rfl, by decide +kernel, by decide +kernel⟩
theorem ok__law_plain   (F : Src K mg "_law_plain" s__law_plain) (bi : Bi mg) : OkD P w K mg base T "_law_plain" (0 + 1) 1 (defD 6 (b__law_plain )) := by
  have sc := sc_f__law_plain
  refine OkD.mk' (ps := ["_law_box_here"]) F sc (fun _ _ _ _ _ _ us hl => match us, hl with | [_], _ => rfl) (fun f cdv A outer s H E ρ H0 hr => ?_) rfl fun _ _ _ h => h
  have hu := hr.units
  have hu1 : (cxD P w K mg base N__law_plain "_law_plain" s__law_plain f cdv A outer s H E).A.units + 1 < cLine := by have := hr.un; omega
  have hu5 : (cxD P w K mg base N__law_plain "_law_plain" s__law_plain f cdv A outer s H E).A.units + 65 < cLine := by have := hr.un; omega
  exact psd_cons (psd_set (ps_set (i := 1) sc.nd rfl (by first | exact Or.inl rfl | exact Or.inr rfl) (pd_lst (pda_nil)))) (psd_cons (psd_for PassesOwn.never rfl (pif_tup (pd_var (pv 0))) (pg_tup rfl (pgs_cons (pg_name (i := 2) sc.nd rfl (by first | exact Or.inl rfl | exact Or.inr rfl)) (pgs_cons (pg_name (i := 3) sc.nd rfl (by first | exact Or.inl rfl | exact Or.inr rfl)) (pgs_nil)))) (psd_cons (psd_setF (ps_set (i := 4) sc.nd rfl (by first | exact Or.inl rfl | exact Or.inr rfl) (pd_if (ptd_isN (pd_var (pv 2))) (pd_non) (pd_add (pd_at (pd_var (pv 2)) (pd_int)) (pd_intc bi (pd_not (pd_at (pd_var (pv 2)) (pd_int)))))))) (psd_cons (psd_setF (ps_set (i := 5) sc.nd rfl (by first | exact Or.inl rfl | exact Or.inr rfl) (pd_if (ptd_isN (pd_var (pv 3))) (pd_non) (pd_sub (pd_at (pd_var (pv 3)) (pd_int)) (pd_intc bi (pd_not (pd_at (pd_var (pv 3)) (pd_int)))))))) (psd_cons (psd_if (PW.pt (pwd_and (ptd_notN (pd_var (pv 4))) (pwd_and (ptd_notN (pd_var (pv 5))) (pwd_and1 (ptd_gt (pd_var (pv 4)) (pd_var (pv 5))))))) (psd_one (psd_ret (pd_repT (pd_tup (pda_cons (pd_tup (pda_cons (pd_int) (pda_cons (pd_int) (pda_nil)))) (pda_nil))) (pd_len bi (pd_var (pv 0)))))) (psd_nil)) (psd_one (psd_app (ps_expr (pe_bm PySem.F.plainAttrs_list PySem.F.slot_list_append PySem.F.type_list_append mt_append (pv 1) (pa_cons (pd_tup (pda_cons (pd_var (pv 4)) (pda_cons (pd_var (pv 5)) (pda_nil)))) pa_nil))))))))) (psd_one (psd_ret (pd_tuple bi (pd_var (pv 1))))))
theorem sc_f__law_beyond : FnScope N__law_beyond ["_law_edges", "_law_plain_here", "_law_i", "_law_side"] (defScope s__law_beyond) := ⟨rfl, rfl, rfl, by decide +kernel, rfl, by decide +kernel, by decide +kernel⟩
theorem ok__law_beyond   (F : Src K mg "_law_beyond" s__law_beyond) (bi : Bi mg) : OkD P w K mg base T "_law_beyond" (0 + 1) 4 (defD 5 (b__law_beyond )) := by
  have sc := sc_f__law_beyond
  refine OkD.mk' (ps := ["_law_edges", "_law_plain_here", "_law_i", "_law_side"]) F sc (fun _ _ _ _ _ _ us hl => match us, hl with | [_, _, _, _], _ => rfl) (fun f cdv A outer s H E ρ H0 hr => ?_) rfl fun _ _ _ h => h
  have hu := hr.units
  have hu1 : (cxD P w K mg base N__law_beyond "_law_beyond" s__law_beyond f cdv A outer s H E).A.units + 1 < cLine := by have := hr.un; omega
  have hu5 : (cxD P w K mg base N__law_beyond "_law_beyond" s__law_beyond f cdv A outer s H E).A.units + 65 < cLine := by have := hr.un; omega
  exact psd_cons (psd_setF (ps_set (i := 4) sc.nd rfl (by first | exact Or.inl rfl | exact Or.inr rfl) (pd_at (pd_at (pd_var (pv 1)) (pd_var (pv 2))) (pd_var (pv 3))))) (psd_cons (psd_if (ptd_eq hu (pd_at (pd_var (pv 1)) (pd_var (pv 2))) (pd_tup (pda_cons (pd_int) (pda_cons (pd_int) (pda_nil))))) (psd_one (psd_ret (pd_bl))) (psd_nil)) (psd_cons (psd_if (ptd_isN (pd_var (pv 4))) (psd_one (psd_ret (pd_bl))) (psd_nil)) (psd_one (psd_ret (pd_at (pd_lst (pda_cons (pd_lt (pd_at (pd_at (pd_var (pv 0)) (pd_var (pv 2))) (pd_int)) (pd_var (pv 4))) (pda_cons (pd_gt (pd_at (pd_at (pd_var (pv 0)) (pd_var (pv 2))) (pd_int)) (pd_var (pv 4))) (pda_nil)))) (pd_var (pv 3)))))))
theorem sc_f__law_inside : FnScope N__law_inside ["_law_edges", "_law_plain_here"] (defScope s__law_inside) := ⟨rfl, rfl, rfl, by decide +kernel, rfl, by decide +kernel, by decide +kernel⟩
theorem ok__law_inside   (F : Src K mg "_law_inside" s__law_inside) (bi : Bi mg) : OkD P w K mg base T "_law_inside" (0 + 1) 2 (defD 6 (b__law_inside )) := by
  have sc := sc_f__law_inside
  refine OkD.mk' (ps := ["_law_edges", "_law_plain_here"]) F sc (fun _ _ _ _ _ _ us hl => match us, hl with | [_, _], _ => rfl) (fun f cdv A outer s H E ρ H0 hr => ?_) rfl fun _ _ _ h => h
  have hu := hr.units
  have hu1 : (cxD P w K mg base N__law_inside "_law_inside" s__law_inside f cdv A outer s H E).A.units + 1 < cLine := by have := hr.un; omega
  have hu5 : (cxD P w K mg base N__law_inside "_law_inside" s__law_inside f cdv A outer s H E).A.units + 65 < cLine := by have := hr.un; omega
  exact psd_cons (psd_if (ptd_eq hu (pd_at (pd_var (pv 1)) (pd_int)) (pd_tup (pda_cons (pd_int) (pda_cons (pd_int) (pda_nil))))) (psd_one (psd_ret (pd_bl))) (psd_nil)) (psd_cons (psd_for PassesOwn.never rfl (pif_zip rfl bi.zip (pv 0) (pv 1)) (pg_tup rfl (pgs_cons (pg_tup rfl (pgs_cons (pg_name (i := 2) sc.nd rfl (by first | exact Or.inl rfl | exact Or.inr rfl)) (pgs_cons (pg_name (i := 3) sc.nd rfl (by first | exact Or.inl rfl | exact Or.inr rfl)) (pgs_nil)))) (pgs_cons (pg_tup rfl (pgs_cons (pg_name (i := 4) sc.nd rfl (by first | exact Or.inl rfl | exact Or.inr rfl)) (pgs_cons (pg_name (i := 5) sc.nd rfl (by first | exact Or.inl rfl | exact Or.inr rfl)) (pgs_nil)))) (pgs_nil)))) (psd_one (psd_if (PW.pt (pwd_or (PW.pt (pwd_and (ptd_notN (pd_var (pv 4))) (pwd_and1 (ptd_lt (pd_var (pv 2)) (pd_var (pv 4)))))) (pwd_or1 (PW.pt (pwd_and (ptd_notN (pd_var (pv 5))) (pwd_and1 (ptd_gt (pd_var (pv 3)) (pd_var (pv 5))))))))) (psd_one (psd_ret (pd_bl))) (psd_nil)))) (psd_one (psd_ret (pd_bl))))
theorem sc_f__law_fits : FnScope N__law_fits ["_law_plain_here", "_law_place"] (defScope s__law_fits) := ⟨rfl, rfl, rfl, by decide +kernel, rfl, by decide +kernel, by decide +kernel⟩
theorem ok__law_fits {S__law_inside : DF} (G__law_inside : OkD P w K mg base T "_law_inside" 1 2 S__law_inside) (F : Src K mg "_law_fits" s__law_fits) (bi : Bi mg) : OkD P w K mg base T "_law_fits" (1 + 1) 2 (defD 3 (b__law_fits S__law_inside)) := by
  have sc := sc_f__law_fits
  refine OkD.mk' (ps := ["_law_plain_here", "_law_place"]) F sc (fun _ _ _ _ _ _ us hl => match us, hl with | [_, _], _ => rfl) (fun f cdv A outer s H E ρ H0 hr => ?_) rfl fun _ _ _ h => h
  have hu := hr.units
  have hu1 : (cxD P w K mg base N__law_fits "_law_fits" s__law_fits f cdv A outer s H E).A.units + 1 < cLine := by have := hr.un; omega
  have hu5 : (cxD P w K mg base N__law_fits "_law_fits" s__law_fits f cdv A outer s H E).A.units + 65 < cLine := by have := hr.un; omega
  exact psd_one (psd_ret (pd_fn (G__law_inside.mono (by decide)) hr rfl (pda_cons (pd_lc rfl sc.nd (pic_tup (pd_var (pv 1))) (own := [("_law_number_here", 2)]) (blkOk_of (N := N__law_fits) (sc := defScope s__law_fits) (by kernel_rfl)) (fun _ _ _ _ _ => pg_name (i := 2) sc.nd rfl (by first | exact Or.inl rfl | exact Or.inr rfl)) (fun _ _ _ _ _ => ptsd_nil) (fun _ _ _ _ _ => pd_tup (pda_cons (pd_var (pv 2)) (pda_cons (pd_var (pv 2)) (pda_nil))))) (pda_cons (pd_var (pv 0)) (pda_nil)))))
theorem sc_f__law_steps : FnScope N__law_steps ["_law_edges", "_law_place"] (defScope s__law_steps) := ⟨rfl, rfl, rfl, by decide +kernel, rfl, by decide +kernel, by decide +kernel⟩
theorem ok__law_steps   (F : Src K mg "_law_steps" s__law_steps) (bi : Bi mg) : OkD P w K mg base T "_law_steps" (0 + 1) 2 (defD 5 (b__law_steps )) := by
  have sc := sc_f__law_steps
  refine OkD.mk' (ps := ["_law_edges", "_law_place"]) F sc (fun _ _ _ _ _ _ us hl => match us, hl with | [_, _], _ => rfl) (fun f cdv A outer s H E ρ H0 hr => ?_) rfl fun _ _ _ h => h
  have hu := hr.units
  have hu1 : (cxD P w K mg base N__law_steps "_law_steps" s__law_steps f cdv A outer s H E).A.units + 1 < cLine := by have := hr.un; omega
  have hu5 : (cxD P w K mg base N__law_steps "_law_steps" s__law_steps f cdv A outer s H E).A.units + 65 < cLine := by have := hr.un; omega
  exact psd_one (psd_ret (pd_sum rfl bi (pd_lc rfl sc.nd (pic_zip rfl bi.zip (pd_var (pv 0)) (pd_var (pv 1))) (own := [("_law_number_here", 2), ("_law_low", 3), ("_law_high", 4)]) (blkOk_of (N := N__law_steps) (sc := defScope s__law_steps) (by kernel_rfl)) (fun _ _ _ _ _ => pg_tup rfl (pgs_cons (pg_tup rfl (pgs_cons (pg_name (i := 3) sc.nd rfl (by first | exact Or.inl rfl | exact Or.inr rfl)) (pgs_cons (pg_name (i := 4) sc.nd rfl (by first | exact Or.inl rfl | exact Or.inr rfl)) (pgs_nil)))) (pgs_cons (pg_name (i := 2) sc.nd rfl (by first | exact Or.inl rfl | exact Or.inr rfl)) (pgs_nil)))) (fun _ _ _ _ _ => ptsd_nil) (fun _ _ _ _ _ => pd_max3 rfl bi (pd_int) (pd_sub (pd_var (pv 3)) (pd_var (pv 2))) (pd_sub (pd_var (pv 2)) (pd_var (pv 4)))))))
theorem sc_f__law_key : FnScope N__law_key ["_law_house_here", "_law_tree_here", "_law_kind_here"] (defScope s__law_key) := ⟨rfl, rfl, rfl, by decide +kernel, rfl, by decide +kernel, by decide +kernel⟩
theorem ok__law_key {S__law_steps : DF} (G__law_steps : OkD P w K mg base T "_law_steps" 1 2 S__law_steps) (F : Src K mg "_law_key" s__law_key) (bi : Bi mg) : OkD P w K mg base T "_law_key" (1 + 1) 3 (defD 6 (b__law_key S__law_steps)) := by
  have sc := sc_f__law_key
  refine OkD.mk' (ps := ["_law_house_here", "_law_tree_here", "_law_kind_here"]) F sc (fun _ _ _ _ _ _ us hl => match us, hl with | [_, _, _], _ => rfl) (fun f cdv A outer s H E ρ H0 hr => ?_) rfl fun _ _ _ h => h
  have hu := hr.units
  have hu1 : (cxD P w K mg base N__law_key "_law_key" s__law_key f cdv A outer s H E).A.units + 1 < cLine := by have := hr.un; omega
  have hu5 : (cxD P w K mg base N__law_key "_law_key" s__law_key f cdv A outer s H E).A.units + 65 < cLine := by have := hr.un; omega
  exact psd_cons (psd_if (ptd_eq hu (pd_at (pd_var (pv 2)) (pd_int)) (pd_str (by decide +kernel))) (psd_one (psd_ret (pd_tup (pda_cons (pd_fn (G__law_steps.mono (by decide)) hr rfl (pda_cons (pd_at (pd_var (pv 1)) (pd_int)) (pda_cons (pd_at (pd_var (pv 2)) (pd_int)) (pda_nil)))) (pda_cons (pd_at (pd_at (pd_var (pv 1)) (pd_int)) (pd_int)) (pda_nil)))))) (psd_nil)) (psd_one (psd_ret (pd_tup (pda_cons (pd_minL rfl bi (pd_lc rfl sc.nd (pic_tup (pd_at (pd_var (pv 0)) (pd_int))) (own := [("_law_name", 3), ("_law_place", 4), ("_law_worth", 5)]) (blkOk_of (N := N__law_key) (sc := defScope s__law_key) (by kernel_rfl)) (fun _ _ _ _ _ => pg_tup rfl (pgs_cons (pg_name (i := 3) sc.nd rfl (by first | exact Or.inl rfl | exact Or.inr rfl)) (pgs_cons (pg_name (i := 4) sc.nd rfl (by first | exact Or.inl rfl | exact Or.inr rfl)) (pgs_cons (pg_name (i := 5) sc.nd rfl (by first | exact Or.inl rfl | exact Or.inr rfl)) (pgs_nil))))) (fun _ _ _ _ _ => ptsd_one (ptd_in (pd_var (pv 3)) (pd_at (pd_var (pv 1)) (pd_int)))) (fun _ _ _ _ _ => pd_sub (pd_int) (pd_var (pv 5))))) (pda_cons (pd_at (pd_at (pd_var (pv 1)) (pd_int)) (pd_int)) (pda_nil))))))
theorem sc_f__law_ranked : FnScope N__law_ranked ["_law_house_here", "_law_plain_here", "_law_kind_here"] (defScope s__law_ranked) := ⟨rfl, rfl, rfl, by decide +kernel, rfl, by decide +kernel, by decide +kernel⟩
theorem ok__law_ranked {S__law_fits : DF} {S__law_steps : DF} (G__law_fits : OkD P w K mg base T "_law_fits" 2 2 S__law_fits) (G__law_steps : OkD P w K mg base T "_law_steps" 1 2 S__law_steps) (F : Src K mg "_law_ranked" s__law_ranked) (bi : Bi mg) : OkD P w K mg base T "_law_ranked" (2 + 1) 3 (defD 9 (b__law_ranked S__law_fits S__law_steps)) := by
  have sc := sc_f__law_ranked
  refine OkD.mk' (ps := ["_law_house_here", "_law_plain_here", "_law_kind_here"]) F sc (fun _ _ _ _ _ _ us hl => match us, hl with | [_, _, _], _ => rfl) (fun f cdv A outer s H E ρ H0 hr => ?_) rfl fun _ _ _ h => h
  have hu := hr.units
  have hu1 : (cxD P w K mg base N__law_ranked "_law_ranked" s__law_ranked f cdv A outer s H E).A.units + 1 < cLine := by have := hr.un; omega
  have hu5 : (cxD P w K mg base N__law_ranked "_law_ranked" s__law_ranked f cdv A outer s H E).A.units + 65 < cLine := by have := hr.un; omega
  exact psd_cons (psd_set (ps_set (i := 3) sc.nd rfl (by first | exact Or.inl rfl | exact Or.inr rfl) (pd_lst (pda_nil)))) (psd_cons (psd_for PassesOwn.never rfl (pif_tup (pd_at (pd_var (pv 0)) (pd_int))) (pg_tup rfl (pgs_cons (pg_name (i := 4) sc.nd rfl (by first | exact Or.inl rfl | exact Or.inr rfl)) (pgs_cons (pg_name (i := 5) sc.nd rfl (by first | exact Or.inl rfl | exact Or.inr rfl)) (pgs_cons (pg_name (i := 6) sc.nd rfl (by first | exact Or.inl rfl | exact Or.inr rfl)) (pgs_nil))))) (psd_one (psd_if (ptd_val (pd_fn (G__law_fits.mono (by decide)) hr rfl (pda_cons (pd_var (pv 1)) (pda_cons (pd_var (pv 5)) (pda_nil))))) (psd_one (psd_app (ps_expr (pe_bm PySem.F.plainAttrs_list PySem.F.slot_list_append PySem.F.type_list_append mt_append (pv 3) (pa_cons (pd_tup (pda_cons (pd_if (ptd_eq hu (pd_at (pd_var (pv 2)) (pd_int)) (pd_str (by decide +kernel))) (pd_sub (pd_int) (pd_var (pv 6))) (pd_fn (G__law_steps.mono (by decide)) hr rfl (pda_cons (pd_lc rfl sc.nd (pic_tup (pd_var (pv 5))) (own := [("_law_one", 7)]) (blkOk_of (N := N__law_ranked) (sc := defScope s__law_ranked) (by kernel_rfl)) (fun _ _ _ _ _ => pg_name (i := 7) sc.nd rfl (by first | exact Or.inl rfl | exact Or.inr rfl)) (fun _ _ _ _ _ => ptsd_nil) (fun _ _ _ _ _ => pd_tup (pda_cons (pd_var (pv 7)) (pda_cons (pd_var (pv 7)) (pda_nil))))) (pda_cons (pd_at (pd_var (pv 2)) (pd_int)) (pda_nil))))) (pda_cons (pd_var (pv 4)) (pda_nil)))) pa_nil))))) (psd_nil)))) (psd_one (psd_ret (pd_lc rfl sc.nd (pic_list (pd_sorted hu bi (pd_var (pv 3)))) (own := [("_law_far", 8), ("_law_name", 4)]) (blkOk_of (N := N__law_ranked) (sc := defScope s__law_ranked) (by kernel_rfl)) (fun _ _ _ _ _ => pg_tup rfl (pgs_cons (pg_name (i := 8) sc.nd rfl (by first | exact Or.inl rfl | exact Or.inr rfl)) (pgs_cons (pg_name (i := 4) sc.nd rfl (by first | exact Or.inl rfl | exact Or.inr rfl)) (pgs_nil)))) (fun _ _ _ _ _ => ptsd_nil) (fun _ _ _ _ _ => pd_var (pv 4))))))
theorem sc_f__law_at : FnScope N__law_at ["_law_tree_here", "_law_path"] (defScope s__law_at) := ⟨rfl, rfl, rfl, by decide +kernel, rfl, by decide +kernel, by decide +kernel⟩
theorem ok__law_at   (F : Src K mg "_law_at" s__law_at) (bi : Bi mg) : OkD P w K mg base T "_law_at" (0 + 1) 2 (defD 3 (b__law_at )) := by
  have sc := sc_f__law_at
  refine OkD.mk' (ps := ["_law_tree_here", "_law_path"]) F sc (fun _ _ _ _ _ _ us hl => match us, hl with | [_, _], _ => rfl) (fun f cdv A outer s H E ρ H0 hr => ?_) rfl fun _ _ _ h => h
  have hu := hr.units
  have hu1 : (cxD P w K mg base N__law_at "_law_at" s__law_at f cdv A outer s H E).A.units + 1 < cLine := by have := hr.un; omega
  have hu5 : (cxD P w K mg base N__law_at "_law_at" s__law_at f cdv A outer s H E).A.units + 65 < cLine := by have := hr.un; omega
  exact psd_cons (psd_for PassesOwn.never rfl (pif_tup (pd_var (pv 1))) (pg_name (i := 2) sc.nd rfl (by first | exact Or.inl rfl | exact Or.inr rfl)) (psd_one (psd_setF (ps_set (i := 0) sc.nd rfl (by first | exact Or.inl rfl | exact Or.inr rfl) (pd_if (ptd_isN (pd_var (pv 0))) (pd_non) (pd_at (pd_var (pv 0)) (pd_add (pd_int) (pd_var (pv 2))))))))) (psd_one (psd_ret (pd_var (pv 0))))
theorem sc_f__law_whole : FnScope N__law_whole ["_law_thing", "_law_most"] (defScope s__law_whole) := ⟨rfl, rfl, rfl, by decide +kernel, rfl, by decide +kernel, by decide +kernel⟩
theorem ok__law_whole   (F : Src K mg "_law_whole" s__law_whole) (bi : Bi mg) : OkD P w K mg base T "_law_whole" (0 + 1) 2 (defD 2 (b__law_whole )) := by
  have sc := sc_f__law_whole
  refine OkD.mk' (ps := ["_law_thing", "_law_most"]) F sc (fun _ _ _ _ _ _ us hl => match us, hl with | [_, _], _ => rfl) (fun f cdv A outer s H E ρ H0 hr => ?_) rfl fun _ _ _ h => h
  have hu := hr.units
  have hu1 : (cxD P w K mg base N__law_whole "_law_whole" s__law_whole f cdv A outer s H E).A.units + 1 < cLine := by have := hr.un; omega
  have hu5 : (cxD P w K mg base N__law_whole "_law_whole" s__law_whole f cdv A outer s H E).A.units + 65 < cLine := by have := hr.un; omega
  exact psd_one (psd_ret (pd_and (pd_isi bi (pd_var (pv 0)) (pd_ty rfl bi.int PyProof.Rows.boot_int)) (pd_and (pd_not (pd_isi bi (pd_var (pv 0)) (pd_ty rfl bi.bool PyProof.Rows.boot_bool))) (pd_one (pd_chain (pd_int) (pd_var (pv 0)) (pd_var (pv 1)))))))
theorem sc_f__law_there : FnScope N__law_there ["_law_tree_here", "_law_part"] (defScope s__law_there) := ⟨rfl, rfl, rfl, by decide +kernel, rfl, by decide +kernel, by decide +kernel⟩
theorem ok__law_there {S__law_whole : DF} {S__law_at : DF} (G__law_whole : OkD P w K mg base T "_law_whole" 1 2 S__law_whole) (G__law_at : OkD P w K mg base T "_law_at" 1 2 S__law_at) (F : Src K mg "_law_there" s__law_there) (bi : Bi mg) : OkD P w K mg base T "_law_there" (1 + 1) 2 (defD 3 (b__law_there S__law_whole S__law_at)) := by
  have sc := sc_f__law_there
  refine OkD.mk' (ps := ["_law_tree_here", "_law_part"]) F sc (fun _ _ _ _ _ _ us hl => match us, hl with | [_, _], _ => rfl) (fun f cdv A outer s H E ρ H0 hr => ?_) rfl fun _ _ _ h => h
  have hu := hr.units
  have hu1 : (cxD P w K mg base N__law_there "_law_there" s__law_there f cdv A outer s H E).A.units + 1 < cLine := by have := hr.un; omega
  have hu5 : (cxD P w K mg base N__law_there "_law_there" s__law_there f cdv A outer s H E).A.units + 65 < cLine := by have := hr.un; omega
  exact psd_cons (psd_if (PW.pt (pwd_or (ptd_not (ptd_val (pd_isi bi (pd_var (pv 1)) (pd_ty rfl bi.tuple PyProof.Rows.boot_tuple)))) (pwd_or (ptd_notin (pd_len bi (pd_var (pv 1))) (pd_tup (pda_cons (pd_int) (pda_cons (pd_int) (pda_nil))))) (pwd_or1 (ptd_not (ptd_val (pd_isi bi (pd_at (pd_var (pv 1)) (pd_int)) (pd_ty rfl bi.tuple PyProof.Rows.boot_tuple)))))))) (psd_one (psd_ret (pd_non))) (psd_nil)) (psd_cons (psd_if (PW.pt (pwd_or (ptd_not (ptd_val (pd_all rfl bi (pd_lc rfl sc.nd (pic_tup (pd_at (pd_var (pv 1)) (pd_int))) (own := [("_law_step", 2)]) (blkOk_of (N := N__law_there) (sc := defScope s__law_there) (by kernel_rfl)) (fun _ _ _ _ _ => pg_name (i := 2) sc.nd rfl (by first | exact Or.inl rfl | exact Or.inr rfl)) (fun _ _ _ _ _ => ptsd_nil) (fun _ _ _ _ _ => pd_fn (G__law_whole.mono (by decide)) hr rfl (pda_cons (pd_var (pv 2)) (pda_cons (pd_int) (pda_nil)))))))) (pwd_or1 (ptd_not (ptd_val (pd_isi bi (pd_at (pd_var (pv 1)) (pd_int)) (pd_ty rfl bi.str PyProof.Rows.boot_str))))))) (psd_one (psd_ret (pd_non))) (psd_nil)) (psd_one (psd_ret (pd_fn (G__law_at.mono (by decide)) hr rfl (pda_cons (pd_var (pv 0)) (pda_cons (pd_at (pd_var (pv 1)) (pd_int)) (pda_nil)))))))
theorem sc_f__law_out_right : FnScope N__law_out_right ["_law_one", "_law_plain_here", "_law_part"] (defScope s__law_out_right) := ⟨rfl, rfl, rfl, by decide +kernel, rfl, by decide +kernel, by decide +kernel⟩
theorem ok__law_out_right {S__law_whole : DF} {S__law_beyond : DF} (G__law_whole : OkD P w K mg base T "_law_whole" 1 2 S__law_whole) (G__law_beyond : OkD P w K mg base T "_law_beyond" 1 4 S__law_beyond) (F : Src K mg "_law_out_right" s__law_out_right) (bi : Bi mg) : OkD P w K mg base T "_law_out_right" (1 + 1) 3 (defD 3 (b__law_out_right S__law_whole S__law_beyond)) := by
  have sc := sc_f__law_out_right
  refine OkD.mk' (ps := ["_law_one", "_law_plain_here", "_law_part"]) F sc (fun _ _ _ _ _ _ us hl => match us, hl with | [_, _, _], _ => rfl) (fun f cdv A outer s H E ρ H0 hr => ?_) rfl fun _ _ _ h => h
  have hu := hr.units
  have hu1 : (cxD P w K mg base N__law_out_right "_law_out_right" s__law_out_right f cdv A outer s H E).A.units + 1 < cLine := by have := hr.un; omega
  have hu5 : (cxD P w K mg base N__law_out_right "_law_out_right" s__law_out_right f cdv A outer s H E).A.units + 65 < cLine := by have := hr.un; omega
  exact psd_cons (psd_if (PW.pt (pwd_or (ptd_ne hu (pd_len bi (pd_var (pv 2))) (pd_int)) (pwd_or (ptd_ne hu (pd_at (pd_var (pv 2)) (pd_int)) (pd_str (by decide +kernel))) (pwd_or (ptd_not (ptd_val (pd_fn (G__law_whole.mono (by decide)) hr rfl (pda_cons (pd_at (pd_var (pv 2)) (pd_int)) (pda_cons (pd_len bi (pd_var (pv 1))) (pda_nil)))))) (pwd_or1 (ptd_not (ptd_val (pd_fn (G__law_whole.mono (by decide)) hr rfl (pda_cons (pd_at (pd_var (pv 2)) (pd_int)) (pda_cons (pd_int) (pda_nil))))))))))) (psd_one (psd_ret (pd_bl))) (psd_nil)) (psd_one (psd_ret (pd_fn (G__law_beyond.mono (by decide)) hr rfl (pda_cons (pd_at (pd_var (pv 0)) (pd_int)) (pda_cons (pd_var (pv 1)) (pda_cons (pd_at (pd_var (pv 2)) (pd_int)) (pda_cons (pd_at (pd_var (pv 2)) (pd_int)) (pda_nil))))))))
theorem sc_f__law_is_cover : FnScope N__law_is_cover ["_law_tree_here", "_law_plain_here", "_law_thing"] (defScope s__law_is_cover) := ⟨rfl, rfl, rfl, by decide +kernel, rfl, by decide +kernel, by decide +kernel⟩
theorem ok__law_is_cover {S__law_there : DF} {S__law_out_right : DF} {S__law_inside : DF} (G__law_there : OkD P w K mg base T "_law_there" 2 2 S__law_there) (G__law_out_right : OkD P w K mg base T "_law_out_right" 2 3 S__law_out_right) (G__law_inside : OkD P w K mg base T "_law_inside" 1 2 S__law_inside) (F : Src K mg "_law_is_cover" s__law_is_cover) (bi : Bi mg) : OkD P w K mg base T "_law_is_cover" (2 + 1) 3 (defD 6 (b__law_is_cover S__law_there S__law_out_right S__law_inside)) := by
  have sc := sc_f__law_is_cover
  refine OkD.mk' (ps := ["_law_tree_here", "_law_plain_here", "_law_thing"]) F sc (fun _ _ _ _ _ _ us hl => match us, hl with | [_, _, _], _ => rfl) (fun f cdv A outer s H E ρ H0 hr => ?_) rfl fun _ _ _ h => h
  have hu := hr.units
  have hu1 : (cxD P w K mg base N__law_is_cover "_law_is_cover" s__law_is_cover f cdv A outer s H E).A.units + 1 < cLine := by have := hr.un; omega
  have hu5 : (cxD P w K mg base N__law_is_cover "_law_is_cover" s__law_is_cover f cdv A outer s H E).A.units + 65 < cLine := by have := hr.un; omega
  exact psd_cons (psd_if (PW.pt (pwd_or (ptd_isN (pd_var (pv 0))) (pwd_or1 (ptd_not (ptd_val (pd_isi bi (pd_var (pv 2)) (pd_ty rfl bi.tuple PyProof.Rows.boot_tuple))))))) (psd_one (psd_ret (pd_and (pd_isi bi (pd_var (pv 2)) (pd_ty rfl bi.tuple PyProof.Rows.boot_tuple)) (pd_one (pd_eq hu (pd_len bi (pd_var (pv 2))) (pd_int)))))) (psd_nil)) (psd_cons (psd_set (ps_set (i := 3) sc.nd rfl (by first | exact Or.inl rfl | exact Or.inr rfl) (pd_lst (pda_nil)))) (psd_cons (psd_for PassesOwn.never rfl (pif_tup (pd_var (pv 2))) (pg_name (i := 4) sc.nd rfl (by first | exact Or.inl rfl | exact Or.inr rfl)) (psd_cons (psd_setF (ps_set (i := 5) sc.nd rfl (by first | exact Or.inl rfl | exact Or.inr rfl) (pd_fn (G__law_there.mono (by decide)) hr rfl (pda_cons (pd_var (pv 0)) (pda_cons (pd_var (pv 4)) (pda_nil)))))) (psd_cons (psd_if (ptd_isN (pd_var (pv 5))) (psd_one (psd_ret (pd_bl))) (psd_nil)) (psd_cons (psd_if (ptd_not (ptd_val (pd_fn (G__law_out_right.mono (by decide)) hr rfl (pda_cons (pd_var (pv 5)) (pda_cons (pd_var (pv 1)) (pda_cons (pd_var (pv 4)) (pda_nil))))))) (psd_one (psd_if (PW.pt (pwd_or (ptd_ne hu (pd_len bi (pd_var (pv 4))) (pd_int)) (pwd_or (ptd_ne hu (pd_at (pd_var (pv 4)) (pd_int)) (pd_str (by decide +kernel))) (pwd_or1 (ptd_not (ptd_val (pd_fn (G__law_inside.mono (by decide)) hr rfl (pda_cons (pd_at (pd_var (pv 5)) (pd_int)) (pda_cons (pd_var (pv 1)) (pda_nil)))))))))) (psd_one (psd_ret (pd_bl))) (psd_nil))) (psd_nil)) (psd_one (psd_ext (ps_expr (pe_bm PySem.F.plainAttrs_list PySem.F.slot_list_extend PySem.F.type_list_extend mt_extend (pv 3) (pa_cons (pd_list bi (pd_at (pd_var (pv 5)) (pd_int))) pa_nil))))))))) (psd_one (psd_ret (pd_eq hu (pd_sorted hu bi (pd_var (pv 3))) (pd_list bi (pd_at (pd_var (pv 0)) (pd_int))))))))
theorem sc_f__law_thing_key : FnScope N__law_thing_key ["_law_house_here", "_law_kind_here", "_law_name"] (defScope s__law_thing_key) := ⟨rfl, rfl, rfl, by decide +kernel, rfl, by decide +kernel, by decide +kernel⟩
theorem ok__law_thing_key {S__law_steps : DF} (G__law_steps : OkD P w K mg base T "_law_steps" 1 2 S__law_steps) (F : Src K mg "_law_thing_key" s__law_thing_key) (bi : Bi mg) : OkD P w K mg base T "_law_thing_key" (1 + 1) 3 (defD 7 (b__law_thing_key S__law_steps)) := by
  have sc := sc_f__law_thing_key
  refine OkD.mk' (ps := ["_law_house_here", "_law_kind_here", "_law_name"]) F sc (fun _ _ _ _ _ _ us hl => match us, hl with | [_, _, _], _ => rfl) (fun f cdv A outer s H E ρ H0 hr => ?_) rfl fun _ _ _ h => h
  have hu := hr.units
  have hu1 : (cxD P w K mg base N__law_thing_key "_law_thing_key" s__law_thing_key f cdv A outer s H E).A.units + 1 < cLine := by have := hr.un; omega
  have hu5 : (cxD P w K mg base N__law_thing_key "_law_thing_key" s__law_thing_key f cdv A outer s H E).A.units + 65 < cLine := by have := hr.un; omega
  exact psd_cons (psd_for PassesOwn.never rfl (pif_tup (pd_at (pd_var (pv 0)) (pd_int))) (pg_tup rfl (pgs_cons (pg_name (i := 3) sc.nd rfl (by first | exact Or.inl rfl | exact Or.inr rfl)) (pgs_cons (pg_name (i := 4) sc.nd rfl (by first | exact Or.inl rfl | exact Or.inr rfl)) (pgs_cons (pg_name (i := 5) sc.nd rfl (by first | exact Or.inl rfl | exact Or.inr rfl)) (pgs_nil))))) (psd_one (psd_if (ptd_eq hu (pd_var (pv 3)) (pd_var (pv 2))) (psd_one (psd_ret (pd_tup (pda_cons (pd_if (ptd_eq hu (pd_at (pd_var (pv 1)) (pd_int)) (pd_str (by decide +kernel))) (pd_sub (pd_int) (pd_var (pv 5))) (pd_fn (G__law_steps.mono (by decide)) hr rfl (pda_cons (pd_lc rfl sc.nd (pic_tup (pd_var (pv 4))) (own := [("_law_one", 6)]) (blkOk_of (N := N__law_thing_key) (sc := defScope s__law_thing_key) (by kernel_rfl)) (fun _ _ _ _ _ => pg_name (i := 6) sc.nd rfl (by first | exact Or.inl rfl | exact Or.inr rfl)) (fun _ _ _ _ _ => ptsd_nil) (fun _ _ _ _ _ => pd_tup (pda_cons (pd_var (pv 6)) (pda_cons (pd_var (pv 6)) (pda_nil))))) (pda_cons (pd_at (pd_var (pv 1)) (pd_int)) (pda_nil))))) (pda_cons (pd_var (pv 3)) (pda_nil)))))) (psd_nil)))) (psd_one (psd_ret (pd_non)))
theorem sc_f__law_show : FnScope N__law_show ["_law_house_here", "_law_tree_here", "_law_plain_here", "_law_kind_here", "_law_keys", "_law_parts"] (defScope s__law_show) := ⟨rfl, rfl, rfl, by decide +kernel, rfl, by decide +kernel, by decide +kernel⟩
theorem ok__law_show {S__law_there : DF} {S__law_inside : DF} {S__law_key : DF} {S__law_out_right : DF} (G__law_there : OkD P w K mg base T "_law_there" 2 2 S__law_there) (G__law_inside : OkD P w K mg base T "_law_inside" 1 2 S__law_inside) (G__law_key : OkD P w K mg base T "_law_key" 2 3 S__law_key) (G__law_out_right : OkD P w K mg base T "_law_out_right" 2 3 S__law_out_right) (F : Src K mg "_law_show" s__law_show) (bi : Bi mg) : OkD P w K mg base T "_law_show" (2 + 1) 6 (defD 12 (b__law_show S__law_there S__law_inside S__law_key S__law_out_right)) := by
  have sc := sc_f__law_show
  refine OkD.mk' (ps := ["_law_house_here", "_law_tree_here", "_law_plain_here", "_law_kind_here", "_law_keys", "_law_parts"]) F sc (fun _ _ _ _ _ _ us hl => match us, hl with | [_, _, _, _, _, _], _ => rfl) (fun f cdv A outer s H E ρ H0 hr => ?_) rfl fun _ _ _ h => h
  have hu := hr.units
  have hu1 : (cxD P w K mg base N__law_show "_law_show" s__law_show f cdv A outer s H E).A.units + 1 < cLine := by have := hr.un; omega
  have hu5 : (cxD P w K mg base N__law_show "_law_show" s__law_show f cdv A outer s H E).A.units + 65 < cLine := by have := hr.un; omega
  exact psd_cons (psd_par (by decide) (ps_par (i := 6) (j := 7) rfl sc.nd rfl rfl (by decide) rfl rfl (pa_cons (pd_lst (pda_nil)) (pa_cons (pd_lst (pda_nil)) pa_nil)) rfl)) (psd_cons (psd_for PassesOwn.never rfl (pif_tup (pd_var (pv 5))) (pg_name (i := 8) sc.nd rfl (by first | exact Or.inl rfl | exact Or.inr rfl)) (psd_cons (psd_setF (ps_set (i := 9) sc.nd rfl (by first | exact Or.inl rfl | exact Or.inr rfl) (pd_fn (G__law_there.mono (by decide)) hr rfl (pda_cons (pd_var (pv 1)) (pda_cons (pd_var (pv 8)) (pda_nil)))))) (psd_cons (psd_if (ptd_isN (pd_var (pv 9))) (psd_one (psd_ret (pd_bl))) (psd_nil)) (psd_cons (psd_if (PW.pt (pwd_and (ptd_eq hu (pd_slT (pd_var (pv 8)) (pdo_some (pd_int)) (pdo_none)) (pd_tup (pda_cons (pd_str (by decide +kernel)) (pda_nil)))) (pwd_and (ptd_eq hu (pd_len bi (pd_at (pd_var (pv 9)) (pd_int))) (pd_int)) (pwd_and1 (ptd_val (pd_fn (G__law_inside.mono (by decide)) hr rfl (pda_cons (pd_at (pd_var (pv 9)) (pd_int)) (pda_cons (pd_var (pv 2)) (pda_nil))))))))) (psd_one (psd_app (ps_expr (pe_bm PySem.F.plainAttrs_list PySem.F.slot_list_append PySem.F.type_list_append mt_append (pv 7) (pa_cons (pd_at (pd_at (pd_var (pv 9)) (pd_int)) (pd_int)) pa_nil))))) (psd_one (psd_if (ptd_eq hu (pd_slT (pd_var (pv 8)) (pdo_some (pd_int)) (pdo_none)) (pd_tup (pda_cons (pd_str (by decide +kernel)) (pda_nil)))) (psd_one (psd_if (PW.pt (pwd_and (ptd_ne hu (pd_var (pv 4)) (pd_lst (pda_nil))) (pwd_and1 (ptd_leD hu (pd_fn (G__law_key.mono (by decide)) hr rfl (pda_cons (pd_var (pv 0)) (pda_cons (pd_var (pv 9)) (pda_cons (pd_var (pv 3)) (pda_nil))))) (pd_at (pd_var (pv 4)) (pd_neg (pd_int))))))) (psd_one (psd_ret (pd_bl))) (psd_nil))) (psd_one (psd_if (ptd_not (ptd_val (pd_fn (G__law_out_right.mono (by decide)) hr rfl (pda_cons (pd_var (pv 9)) (pda_cons (pd_var (pv 2)) (pda_cons (pd_var (pv 8)) (pda_nil))))))) (psd_one (psd_ret (pd_bl))) (psd_nil)))))) (psd_one (psd_ext (ps_expr (pe_bm PySem.F.plainAttrs_list PySem.F.slot_list_extend PySem.F.type_list_extend mt_extend (pv 6) (pa_cons (pd_list bi (pd_at (pd_var (pv 9)) (pd_int))) pa_nil))))))))) (psd_one (psd_ret (pd_and (pd_eq hu (pd_sorted hu bi (pd_var (pv 6))) (pd_list bi (pd_at (pd_var (pv 1)) (pd_int)))) (pd_one (pd_eq hu (pd_sorted hu bi (pd_var (pv 7))) (pd_sorted hu bi (pd_lc rfl sc.nd (pic_list (pd_var (pv 4))) (own := [("_law_far", 10), ("_law_name", 11)]) (blkOk_of (N := N__law_show) (sc := defScope s__law_show) (by kernel_rfl)) (fun _ _ _ _ _ => pg_tup rfl (pgs_cons (pg_name (i := 10) sc.nd rfl (by first | exact Or.inl rfl | exact Or.inr rfl)) (pgs_cons (pg_name (i := 11) sc.nd rfl (by first | exact Or.inl rfl | exact Or.inr rfl)) (pgs_nil)))) (fun _ _ _ _ _ => ptsd_nil) (fun _ _ _ _ _ => pd_var (pv 11))))))))))
theorem sc_f__law_is_paper : FnScope N__law_is_paper ["_law_house_here", "_law_tree_here", "_law_plain_here", "_law_kind_here", "_law_k", "_law_thing"] (defScope s__law_is_paper) := ⟨rfl, rfl, rfl, by decide +kernel, rfl, by decide +kernel, by decide +kernel⟩
theorem ok__law_is_paper {S__law_whole : DF} {S__law_thing_key : DF} {S__law_show : DF} (G__law_whole : OkD P w K mg base T "_law_whole" 1 2 S__law_whole) (G__law_thing_key : OkD P w K mg base T "_law_thing_key" 2 3 S__law_thing_key) (G__law_show : OkD P w K mg base T "_law_show" 3 6 S__law_show) (F : Src K mg "_law_is_paper" s__law_is_paper) (bi : Bi mg) : OkD P w K mg base T "_law_is_paper" (3 + 1) 6 (defD 13 (b__law_is_paper S__law_whole S__law_thing_key S__law_show)) := by
  have sc := sc_f__law_is_paper
  refine OkD.mk' (ps := ["_law_house_here", "_law_tree_here", "_law_plain_here", "_law_kind_here", "_law_k", "_law_thing"]) F sc (fun _ _ _ _ _ _ us hl => match us, hl with | [_, _, _, _, _, _], _ => rfl) (fun f cdv A outer s H E ρ H0 hr => ?_) rfl fun _ _ _ h => h
  have hu := hr.units
  have hu1 : (cxD P w K mg base N__law_is_paper "_law_is_paper" s__law_is_paper f cdv A outer s H E).A.units + 1 < cLine := by have := hr.un; omega
  have hu5 : (cxD P w K mg base N__law_is_paper "_law_is_paper" s__law_is_paper f cdv A outer s H E).A.units + 65 < cLine := by have := hr.un; omega
  exact psd_cons (psd_if (PW.pt (pwd_or (ptd_not (ptd_val (pd_isi bi (pd_var (pv 5)) (pd_ty rfl bi.tuple PyProof.Rows.boot_tuple)))) (pwd_or1 (ptd_ne hu (pd_len bi (pd_var (pv 5))) (pd_int))))) (psd_one (psd_ret (pd_bl))) (psd_nil)) (psd_cons (psd_asg (ps_asg (pd_var (pv 5)) (pg_tup rfl (pgs_cons (pg_name (i := 6) sc.nd rfl (by first | exact Or.inl rfl | exact Or.inr rfl)) (pgs_cons (pg_name (i := 7) sc.nd rfl (by first | exact Or.inl rfl | exact Or.inr rfl)) (pgs_nil)))))) (psd_cons (psd_if (PW.pt (pwd_or (ptd_not (ptd_val (pd_isi bi (pd_var (pv 6)) (pd_ty rfl bi.tuple PyProof.Rows.boot_tuple)))) (pwd_or (ptd_not (ptd_val (pd_isi bi (pd_var (pv 7)) (pd_ty rfl bi.tuple PyProof.Rows.boot_tuple)))) (pwd_or1 (ptd_gt (pd_len bi (pd_var (pv 6))) (pd_var (pv 4))))))) (psd_one (psd_ret (pd_bl))) (psd_nil)) (psd_cons (psd_if (ptd_not (ptd_val (pd_all rfl bi (pd_lc rfl sc.nd (pic_tup (pd_var (pv 6))) (own := [("_law_name", 9)]) (blkOk_of (N := N__law_is_paper) (sc := defScope s__law_is_paper) (by kernel_rfl)) (fun _ _ _ _ _ => pg_name (i := 9) sc.nd rfl (by first | exact Or.inl rfl | exact Or.inr rfl)) (fun _ _ _ _ _ => ptsd_nil) (fun _ _ _ _ _ => pd_fn (G__law_whole.mono (by decide)) hr rfl (pda_cons (pd_var (pv 9)) (pda_cons (pd_pow (pd_int) (pd_int)) (pda_nil)))))))) (psd_one (psd_ret (pd_bl))) (psd_nil)) (psd_cons (psd_setF (ps_lc (i := 8) rfl sc.nd rfl rfl (sw_true rfl rfl rfl rfl) (pic_tup (pd_var (pv 6))) (own := [("_law_name", 9)]) (blkOk_of (N := N__law_is_paper) (sc := defScope s__law_is_paper) (by kernel_rfl)) (fun _ _ _ _ _ => pg_name (i := 9) sc.nd rfl (by first | exact Or.inl rfl | exact Or.inr rfl)) (fun _ _ _ _ _ => ptsd_nil) (fun _ _ _ _ _ => pd_fn (G__law_thing_key.mono (by decide)) hr rfl (pda_cons (pd_var (pv 0)) (pda_cons (pd_var (pv 3)) (pda_cons (pd_var (pv 9)) (pda_nil))))))) (psd_cons (psd_if (PW.pt (pwd_or (ptd_inN hu5 (pd_non) (pd_var (pv 8))) (pwd_or1 (ptd_not (ptd_val (pd_all rfl bi (pd_lc rfl sc.nd (pic_zip rfl bi.zip (pd_var (pv 8)) (pd_slL (pd_var (pv 8)) (pdo_some (pd_int)) (pdo_none))) (own := [("_law_one", 10), ("_law_other", 11)]) (blkOk_of (N := N__law_is_paper) (sc := defScope s__law_is_paper) (by kernel_rfl)) (fun _ _ _ _ _ => pg_tup rfl (pgs_cons (pg_name (i := 10) sc.nd rfl (by first | exact Or.inl rfl | exact Or.inr rfl)) (pgs_cons (pg_name (i := 11) sc.nd rfl (by first | exact Or.inl rfl | exact Or.inr rfl)) (pgs_nil)))) (fun _ _ _ _ _ => ptsd_nil) (fun _ _ _ _ _ => pd_ltD hu (pd_var (pv 10)) (pd_var (pv 11)))))))))) (psd_one (psd_ret (pd_bl))) (psd_nil)) (psd_cons (psd_if (ptd_isN (pd_var (pv 1))) (psd_one (psd_ret (pd_eq hu (pd_var (pv 7)) (pd_tup (pda_nil))))) (psd_nil)) (psd_cons (psd_if (ptd_not (ptd_val (pd_fn (G__law_show.mono (by decide)) hr rfl (pda_cons (pd_var (pv 0)) (pda_cons (pd_var (pv 1)) (pda_cons (pd_var (pv 2)) (pda_cons (pd_var (pv 3)) (pda_cons (pd_var (pv 8)) (pda_cons (pd_var (pv 7)) (pda_nil)))))))))) (psd_one (psd_ret (pd_bl))) (psd_nil)) (psd_one (psd_ret (pd_or (pd_eq hu (pd_len bi (pd_var (pv 6))) (pd_var (pv 4))) (pd_one (pd_notin (pd_str (by decide +kernel)) (pd_lc rfl sc.nd (pic_tup (pd_var (pv 7))) (own := [("_law_part", 12)]) (blkOk_of (N := N__law_is_paper) (sc := defScope s__law_is_paper) (by kernel_rfl)) (fun _ _ _ _ _ => pg_name (i := 12) sc.nd rfl (by first | exact Or.inl rfl | exact Or.inr rfl)) (fun _ _ _ _ _ => ptsd_nil) (fun _ _ _ _ _ => pd_at (pd_var (pv 12)) (pd_int)))))))))))))))
theorem sc_f__law_parted : FnScope N__law_parted ["_law_left_here", "_law_tree_here", "_law_plain_here", "_law_path", "_law_often"] (defScope s__law_parted) := ⟨rfl, rfl, rfl, by decide +kernel, rfl, by decide +kernel, by decide +kernel⟩
theorem ok__law_parted {k : Nat} (hk : 2 ≤ k) {S__law_pick : DF} {S__law_parted : DF} {S__law_beyond : DF} (G__law_pick : OkD P w K mg base T "_law_pick" 1 2 S__law_pick) (G__law_parted : OkD P w K mg base T "_law_parted" k 5 S__law_parted) (G__law_beyond : OkD P w K mg base T "_law_beyond" 1 4 S__law_beyond) (F : Src K mg "_law_parted" s__law_parted) (bi : Bi mg) : OkD P w K mg base T "_law_parted" (k + 1) 5 (defD 8 (b__law_parted S__law_pick S__law_parted S__law_beyond)) := by
  have sc := sc_f__law_parted
  refine OkD.mk' (ps := ["_law_left_here", "_law_tree_here", "_law_plain_here", "_law_path", "_law_often"]) F sc (fun _ _ _ _ _ _ us hl => match us, hl with | [_, _, _, _, _], _ => rfl) (fun f cdv A outer s H E ρ H0 hr => ?_) rfl fun _ _ _ h => h
  have hu := hr.units
  have hu1 : (cxD P w K mg base N__law_parted "_law_parted" s__law_parted f cdv A outer s H E).A.units + 1 < cLine := by have := hr.un; omega
  have hu5 : (cxD P w K mg base N__law_parted "_law_parted" s__law_parted f cdv A outer s H E).A.units + 65 < cLine := by have := hr.un; omega
  exact psd_cons (psd_if (PW.pt (pwd_and (ptd_notN (pd_at (pd_var (pv 1)) (pd_int))) (pwd_and1 (ptd_lt (pd_fn (G__law_pick.mono (by omega)) hr rfl (pda_cons (pd_var (pv 0)) (pda_cons (pd_int) (pda_nil)))) (pd_var (pv 4)))))) (psd_cons (psd_setF (ps_set (i := 5) sc.nd rfl (by first | exact Or.inl rfl | exact Or.inr rfl) (pd_fn G__law_parted hr rfl (pda_cons (pd_var (pv 0)) (pda_cons (pd_at (pd_var (pv 1)) (pd_int)) (pda_cons (pd_var (pv 2)) (pda_cons (pd_catT (pd_var (pv 3)) (pd_tup (pda_cons (pd_int) (pda_nil)))) (pda_cons (pd_var (pv 4)) (pda_nil))))))))) (psd_one (psd_ret (pd_cat (pd_var (pv 5)) (pd_fn G__law_parted hr rfl (pda_cons (pd_var (pv 0)) (pda_cons (pd_at (pd_var (pv 1)) (pd_int)) (pda_cons (pd_var (pv 2)) (pda_cons (pd_catT (pd_var (pv 3)) (pd_tup (pda_cons (pd_int) (pda_nil)))) (pda_cons (pd_var (pv 4)) (pda_nil))))))))))) (psd_nil)) (psd_cons (psd_setF (ps_lc (i := 6) rfl sc.nd rfl rfl (sw_true rfl rfl rfl rfl) (pic_range rfl bi.range (pd_mul (pd_int) (pd_len bi (pd_var (pv 2))))) (own := [("_law_k", 7)]) (blkOk_of (N := N__law_parted) (sc := defScope s__law_parted) (by kernel_rfl)) (fun _ _ _ _ _ => pg_name (i := 7) sc.nd rfl (by first | exact Or.inl rfl | exact Or.inr rfl)) (fun _ _ _ _ _ => ptsd_one (ptd_val (pd_fn (G__law_beyond.mono (by omega)) hr rfl (pda_cons (pd_at (pd_var (pv 1)) (pd_int)) (pda_cons (pd_var (pv 2)) (pda_cons (pd_fdiv (pd_var (pv 7)) (pd_int)) (pda_cons (pd_mod (pd_var (pv 7)) (pd_int)) (pda_nil)))))))) (fun _ _ _ _ _ => pd_var (pv 7)))) (psd_cons (psd_if (ptd_eq hu (pd_fn (G__law_pick.mono (by omega)) hr rfl (pda_cons (pd_var (pv 0)) (pda_cons (pd_int) (pda_nil)))) (pd_int)) (psd_one (psd_setF (ps_set (i := 6) sc.nd rfl (by first | exact Or.inl rfl | exact Or.inr rfl) (pd_slL (pd_lst (pda_cons (pd_fn (G__law_pick.mono (by omega)) hr rfl (pda_cons (pd_var (pv 0)) (pda_cons (pd_mul (pd_int) (pd_len bi (pd_var (pv 2)))) (pda_nil)))) (pda_nil))) (pdo_none) (pdo_some (pd_fn (G__law_pick.mono (by omega)) hr rfl (pda_cons (pd_var (pv 0)) (pda_cons (pd_int) (pda_nil))))))))) (psd_nil)) (psd_cons (psd_if (ptd_eq hu (pd_var (pv 6)) (pd_lst (pda_nil))) (psd_one (psd_ret (pd_lst (pda_cons (pd_tup (pda_cons (pd_var (pv 3)) (pda_cons (pd_str (by decide +kernel)) (pda_nil)))) (pda_nil))))) (psd_nil)) (psd_cons (psd_setF (ps_set (i := 7) sc.nd rfl (by first | exact Or.inl rfl | exact Or.inr rfl) (pd_at (pd_var (pv 6)) (pd_fn (G__law_pick.mono (by omega)) hr rfl (pda_cons (pd_var (pv 0)) (pda_cons (pd_len bi (pd_var (pv 6))) (pda_nil))))))) (psd_one (psd_ret (pd_lst (pda_cons (pd_tup (pda_cons (pd_var (pv 3)) (pda_cons (pd_str (by decide +kernel)) (pda_cons (pd_fdiv (pd_var (pv 7)) (pd_int)) (pda_cons (pd_mod (pd_var (pv 7)) (pd_int)) (pda_nil)))))) (pda_nil)))))))))
theorem sc_f__law_cover_right : FnScope N__law_cover_right ["_law_house_here", "_law_tree_here", "_law_box_here", "_law_plain_here", "_law_parts"] (defScope s__law_cover_right) := ⟨rfl, rfl, rfl, by decide +kernel, rfl, by decide +kernel, by decide +kernel⟩
theorem ok__law_cover_right {S_shows_cover : DF} {S__law_is_cover : DF} {S__law_fits : DF} {S_by_cover : DF} (G_shows_cover : OkD P w K mg base T "shows_cover" 6 4 S_shows_cover) (G__law_is_cover : OkD P w K mg base T "_law_is_cover" 3 3 S__law_is_cover) (G__law_fits : OkD P w K mg base T "_law_fits" 2 2 S__law_fits) (G_by_cover : OkD P w K mg base T "by_cover" 6 5 S_by_cover) (F : Src K mg "_law_cover_right" s__law_cover_right) (bi : Bi mg) : OkD P w K mg base T "_law_cover_right" (6 + 1) 5 (defD 13 (b__law_cover_right S_shows_cover S__law_is_cover S__law_fits S_by_cover)) := by
  have sc := sc_f__law_cover_right
  refine OkD.mk' (ps := ["_law_house_here", "_law_tree_here", "_law_box_here", "_law_plain_here", "_law_parts"]) F sc (fun _ _ _ _ _ _ us hl => match us, hl with | [_, _, _, _, _], _ => rfl) (fun f cdv A outer s H E ρ H0 hr => ?_) rfl fun _ _ _ h => h
  have hu := hr.units
  have hu1 : (cxD P w K mg base N__law_cover_right "_law_cover_right" s__law_cover_right f cdv A outer s H E).A.units + 1 < cLine := by have := hr.un; omega
  have hu5 : (cxD P w K mg base N__law_cover_right "_law_cover_right" s__law_cover_right f cdv A outer s H E).A.units + 65 < cLine := by have := hr.un; omega
  exact psd_cons (psd_setF (ps_set (i := 5) sc.nd rfl (by first | exact Or.inl rfl | exact Or.inr rfl) (pd_fn (G_shows_cover.mono (by decide)) hr rfl (pda_cons (pd_var (pv 0)) (pda_cons (pd_var (pv 1)) (pda_cons (pd_var (pv 2)) (pda_cons (pd_var (pv 4)) (pda_nil)))))))) (psd_cons (psd_if (PW.pt (pwd_or (ptd_not (ptd_val (pd_isi bi (pd_var (pv 5)) (pd_ty rfl bi.bool PyProof.Rows.boot_bool)))) (pwd_or1 (ptd_ne hu (pd_var (pv 5)) (pd_fn (G__law_is_cover.mono (by decide)) hr rfl (pda_cons (pd_var (pv 1)) (pda_cons (pd_var (pv 3)) (pda_cons (pd_var (pv 4)) (pda_nil))))))))) (psd_one (psd_ret (pd_bl))) (psd_nil)) (psd_cons (psd_if (ptd_not (ptd_val (pd_var (pv 5)))) (psd_one (psd_ret (pd_bl))) (psd_nil)) (psd_cons (psd_setF (ps_set (i := 6) sc.nd rfl (by first | exact Or.inl rfl | exact Or.inr rfl) (pd_sorted hu bi (pd_lc rfl sc.nd (pic_tup (pd_at (pd_var (pv 0)) (pd_int))) (own := [("_law_name", 9), ("_law_place", 10), ("_law_worth", 11)]) (blkOk_of (N := N__law_cover_right) (sc := defScope s__law_cover_right) (by kernel_rfl)) (fun _ _ _ _ _ => pg_tup rfl (pgs_cons (pg_name (i := 9) sc.nd rfl (by first | exact Or.inl rfl | exact Or.inr rfl)) (pgs_cons (pg_name (i := 10) sc.nd rfl (by first | exact Or.inl rfl | exact Or.inr rfl)) (pgs_cons (pg_name (i := 11) sc.nd rfl (by first | exact Or.inl rfl | exact Or.inr rfl)) (pgs_nil))))) (fun _ _ _ _ _ => ptsd_one (ptd_val (pd_fn (G__law_fits.mono (by decide)) hr rfl (pda_cons (pd_var (pv 3)) (pda_cons (pd_var (pv 10)) (pda_nil)))))) (fun _ _ _ _ _ => pd_tup (pda_cons (pd_var (pv 10)) (pda_cons (pd_var (pv 9)) (pda_nil)))))))) (psd_cons (psd_setF (ps_lc (i := 7) rfl sc.nd rfl rfl (sw_true rfl rfl rfl rfl) (pic_tup (pd_at (pd_var (pv 0)) (pd_int))) (own := [("_law_name", 9), ("_law_place", 10), ("_law_worth", 11)]) (blkOk_of (N := N__law_cover_right) (sc := defScope s__law_cover_right) (by kernel_rfl)) (fun _ _ _ _ _ => pg_tup rfl (pgs_cons (pg_name (i := 9) sc.nd rfl (by first | exact Or.inl rfl | exact Or.inr rfl)) (pgs_cons (pg_name (i := 10) sc.nd rfl (by first | exact Or.inl rfl | exact Or.inr rfl)) (pgs_cons (pg_name (i := 11) sc.nd rfl (by first | exact Or.inl rfl | exact Or.inr rfl)) (pgs_nil))))) (fun _ _ _ _ _ => ptsd_one (ptd_val (pd_fn (G__law_fits.mono (by decide)) hr rfl (pda_cons (pd_var (pv 3)) (pda_cons (pd_var (pv 10)) (pda_nil)))))) (fun _ _ _ _ _ => pd_var (pv 11)))) (psd_cons (psd_setF (ps_lc (i := 8) rfl sc.nd rfl rfl (sw_true rfl rfl rfl rfl) (pic_tup (pd_tup (pda_cons (pd_str (by decide +kernel)) (pda_cons (pd_str (by decide +kernel)) (pda_cons (pd_str (by decide +kernel)) (pda_nil)))))) (own := [("_law_word", 12)]) (blkOk_of (N := N__law_cover_right) (sc := defScope s__law_cover_right) (by kernel_rfl)) (fun _ _ _ _ _ => pg_name (i := 12) sc.nd rfl (by first | exact Or.inl rfl | exact Or.inr rfl)) (fun _ _ _ _ _ => ptsd_nil) (fun _ _ _ _ _ => pd_fn (G_by_cover.mono (by decide)) hr rfl (pda_cons (pd_var (pv 0)) (pda_cons (pd_var (pv 1)) (pda_cons (pd_var (pv 2)) (pda_cons (pd_var (pv 4)) (pda_cons (pd_tup (pda_cons (pd_var (pv 12)) (pda_cons (pd_var (pv 2)) (pda_nil)))) (pda_nil))))))))) (psd_one (psd_ret (pd_eq hu (pd_var (pv 8)) (pd_lst (pda_cons (pd_len bi (pd_var (pv 6))) (pda_cons (pd_sum rfl bi (pd_var (pv 7))) (pda_cons (pd_tuple bi (pd_lc rfl sc.nd (pic_list (pd_var (pv 6))) (own := [("_law_place", 10), ("_law_name", 9)]) (blkOk_of (N := N__law_cover_right) (sc := defScope s__law_cover_right) (by kernel_rfl)) (fun _ _ _ _ _ => pg_tup rfl (pgs_cons (pg_name (i := 10) sc.nd rfl (by first | exact Or.inl rfl | exact Or.inr rfl)) (pgs_cons (pg_name (i := 9) sc.nd rfl (by first | exact Or.inl rfl | exact Or.inr rfl)) (pgs_nil)))) (fun _ _ _ _ _ => ptsd_nil) (fun _ _ _ _ _ => pd_var (pv 9)))) (pda_nil)))))))))))))
theorem sc_f__law_drawn_right : FnScope N__law_drawn_right ["_law_left_here", "_law_house_here", "_law_tree_here", "_law_box_here", "_law_plain_here", "_law_parts"] (defScope s__law_drawn_right) := ⟨rfl, rfl, rfl, by decide +kernel, rfl, by decide +kernel, by decide +kernel⟩
theorem ok__law_drawn_right {S__law_kind : DF} {S__law_ranked : DF} {S__law_pick : DF} {S__law_at : DF} {S_shows_drawn : DF} {S__law_is_paper : DF} (G__law_kind : OkD P w K mg base T "_law_kind" 3 2 S__law_kind) (G__law_ranked : OkD P w K mg base T "_law_ranked" 3 3 S__law_ranked) (G__law_pick : OkD P w K mg base T "_law_pick" 1 2 S__law_pick) (G__law_at : OkD P w K mg base T "_law_at" 1 2 S__law_at) (G_shows_drawn : OkD P w K mg base T "shows_drawn" 7 6 S_shows_drawn) (G__law_is_paper : OkD P w K mg base T "_law_is_paper" 4 6 S__law_is_paper) (F : Src K mg "_law_drawn_right" s__law_drawn_right) (bi : Bi mg) : OkD P w K mg base T "_law_drawn_right" (7 + 1) 6 (defD 17 (b__law_drawn_right S__law_kind S__law_ranked S__law_pick S__law_at S_shows_drawn S__law_is_paper)) := by
  have sc := sc_f__law_drawn_right
  refine OkD.mk' (ps := ["_law_left_here", "_law_house_here", "_law_tree_here", "_law_box_here", "_law_plain_here", "_law_parts"]) F sc (fun _ _ _ _ _ _ us hl => match us, hl with | [_, _, _, _, _, _], _ => rfl) (fun f cdv A outer s H E ρ H0 hr => ?_) rfl fun _ _ _ h => h
  have hu := hr.units
  have hu1 : (cxD P w K mg base N__law_drawn_right "_law_drawn_right" s__law_drawn_right f cdv A outer s H E).A.units + 1 < cLine := by have := hr.un; omega
  have hu5 : (cxD P w K mg base N__law_drawn_right "_law_drawn_right" s__law_drawn_right f cdv A outer s H E).A.units + 65 < cLine := by have := hr.un; omega
  exact psd_cons (psd_setF (ps_set (i := 6) sc.nd rfl (by first | exact Or.inl rfl | exact Or.inr rfl) (pd_fn (G__law_kind.mono (by decide)) hr rfl (pda_cons (pd_var (pv 0)) (pda_cons (pd_var (pv 1)) (pda_nil)))))) (psd_cons (psd_setF (ps_set (i := 7) sc.nd rfl (by first | exact Or.inl rfl | exact Or.inr rfl) (pd_fn (G__law_ranked.mono (by decide)) hr rfl (pda_cons (pd_var (pv 1)) (pda_cons (pd_var (pv 4)) (pda_cons (pd_var (pv 6)) (pda_nil))))))) (psd_cons (psd_setF (ps_set (i := 8) sc.nd rfl (by first | exact Or.inl rfl | exact Or.inr rfl) (pd_fn (G__law_pick.mono (by decide)) hr rfl (pda_cons (pd_var (pv 0)) (pda_cons (pd_add (pd_len bi (pd_var (pv 7))) (pd_int)) (pda_nil)))))) (psd_cons (psd_set (ps_set (i := 9) sc.nd rfl (by first | exact Or.inl rfl | exact Or.inr rfl) (pd_lst (pda_nil)))) (psd_cons (psd_for PassesOwn.never rfl (pif_tup (pd_var (pv 5))) (pg_name (i := 10) sc.nd rfl (by first | exact Or.inl rfl | exact Or.inr rfl)) (psd_cons (psd_setF (ps_set (i := 11) sc.nd rfl (by first | exact Or.inl rfl | exact Or.inr rfl) (pd_fn (G__law_at.mono (by decide)) hr rfl (pda_cons (pd_var (pv 2)) (pda_cons (pd_at (pd_var (pv 10)) (pd_int)) (pda_nil)))))) (psd_cons (psd_setF (ps_set (i := 12) sc.nd rfl (by first | exact Or.inl rfl | exact Or.inr rfl) (pd_and (pd_in (pd_at (pd_at (pd_var (pv 11)) (pd_int)) (pd_int)) (pd_slL (pd_var (pv 7)) (pdo_none) (pdo_some (pd_var (pv 8))))) (pd_one (pd_eq hu (pd_len bi (pd_at (pd_var (pv 11)) (pd_int))) (pd_int)))))) (psd_one (psd_app (ps_expr (pe_bm PySem.F.plainAttrs_list PySem.F.slot_list_append PySem.F.type_list_append mt_append (pv 9) (pa_cons (pd_if (PW.pt (pwd_and (ptd_eq hu (pd_at (pd_var (pv 10)) (pd_int)) (pd_str (by decide +kernel))) (pwd_and1 (ptd_not (ptd_val (pd_var (pv 12))))))) (pd_tup (pda_cons (pd_at (pd_var (pv 10)) (pd_int)) (pda_cons (pd_str (by decide +kernel)) (pda_nil)))) (pd_var (pv 10))) pa_nil)))))))) (psd_cons (psd_setF (ps_set (i := 13) sc.nd rfl (by first | exact Or.inl rfl | exact Or.inr rfl) (pd_tup (pda_cons (pd_tuple bi (pd_slL (pd_var (pv 7)) (pdo_none) (pdo_some (pd_var (pv 8))))) (pda_cons (pd_tuple bi (pd_var (pv 9))) (pda_nil)))))) (psd_cons (psd_for PassesOwn.never rfl (pif_tup (pd_tup (pda_cons (pd_var (pv 13)) (pda_cons (pd_tup (pda_cons (pd_tuple bi (pd_slL (pd_var (pv 7)) (pdo_some (pd_int)) (pdo_some (pd_add (pd_var (pv 8)) (pd_int))))) (pda_cons (pd_tuple bi (pd_var (pv 9))) (pda_nil)))) (pda_nil))))) (pg_name (i := 14) sc.nd rfl (by first | exact Or.inl rfl | exact Or.inr rfl)) (psd_cons (psd_setF (ps_set (i := 15) sc.nd rfl (by first | exact Or.inl rfl | exact Or.inr rfl) (pd_fn (G_shows_drawn.mono (by decide)) hr rfl (pda_cons (pd_var (pv 1)) (pda_cons (pd_var (pv 2)) (pda_cons (pd_var (pv 3)) (pda_cons (pd_var (pv 6)) (pda_cons (pd_var (pv 8)) (pda_cons (pd_var (pv 14)) (pda_nil)))))))))) (psd_cons (psd_setF (ps_set (i := 16) sc.nd rfl (by first | exact Or.inl rfl | exact Or.inr rfl) (pd_fn (G__law_is_paper.mono (by decide)) hr rfl (pda_cons (pd_var (pv 1)) (pda_cons (pd_var (pv 2)) (pda_cons (pd_var (pv 4)) (pda_cons (pd_var (pv 6)) (pda_cons (pd_var (pv 8)) (pda_cons (pd_var (pv 14)) (pda_nil)))))))))) (psd_one (psd_if (PW.pt (pwd_or (ptd_not (ptd_val (pd_isi bi (pd_var (pv 15)) (pd_ty rfl bi.bool PyProof.Rows.boot_bool)))) (pwd_or1 (ptd_ne hu (pd_var (pv 15)) (pd_var (pv 16)))))) (psd_one (psd_ret (pd_bl))) (psd_nil)))))) (psd_one (psd_ret (pd_bl)))))))))
end
end Bx
/-! G2: the law's def; printed by mkg2.py -/
namespace Bx
open PySem PySem.Spec PyProof.Rows L2
open LamX (Tabs TabB)
section
variable {P : Program} {w : World} {K : PySem.W.Frag} {mg : Str → Option Value} {base : Heap} {T : Tb}
theorem pe_ex {X : Cx} {e : Expr} {d : DE} (h : ∀ ρ H0, PE X e (liE ρ X.K T H0 d)) : PE X e (fun σ H Q => ∃ ρ H0, liE ρ X.K T H0 d σ H Q) := ⟨fun pins s σ H Q I ⟨ρ, H0, q⟩ => (h ρ H0).run pins s σ H Q I q⟩
theorem pss_ex {X : Cx} {e : List Stmt} {d : DS} (h : ∀ ρ H0, PSs X e (liS ρ X.K T H0 d)) : PSs X e (fun D σ H => ∃ ρ H0, liS ρ X.K T H0 d D σ H) := ⟨fun pins s σ H D I ⟨ρ, H0, q⟩ => (h ρ H0).run pins s σ H D I q⟩
def spLaw (K : PySem.W.Frag) (T : Tb) : Sp := fun vs H Q _ => ∃ (a : Addr) (ns : List Int), vs = [.ref a] ∧ SqL K H a (ns.map V.int) ∧ Tabs T H ∧ ∀ H', Q (.bl true) H'
theorem sc_law : FnScope N_law ["_law_script"] (defScope s_law) := ⟨rfl, rfl, rfl, by decide +kernel, rfl, by decide +kernel, by decide +kernel⟩
theorem sqS_none {H : Hp} {a : Addr} {xs : List V} (h : SqL K H a xs) : SqS none K H a xs := by
  rcases h with h | h
  · exact .inl ⟨h, fun z => nomatch z⟩
  · exact .inr h
/-- the slots of a turn -/
theorem er_one {ρ : Option Addr} {H : Hp} {σ : L2.St} {a : Addr} {ns : List Int} {k : Int} (hl : σ.length = 10) (h0 : σ[0]? = some (some (.ref a))) (hs : SqS ρ K H a (ns.map V.int)) (h1 : σ[1]? = some (some (.int k))) (hv : Live ρ H) (ht : Tabs T H) (y : Option Val) (hy : y = none ∨ (y = some .rng ∧ ∃ p, ρ = some p ∧ σ[2]? = some (some (.ref p)))) :
    ER ρ K T H H σ [some (.s ns), some (.d (.int k)), y, none, none, none, none, none, none, none] where
  len := hl
  sl := fun i x hx => by
    match i with
    | 0 =>
      cases hx
      exact ⟨_, h0, ⟨a, rfl, hs⟩, fun b hb => by cases hb; exact hs⟩
    | 1 =>
      cases hx
      exact ⟨_, h1, RD.int k, trivial⟩
    | 2 =>
      rcases hy with rfl | ⟨rfl, p, hp, h2⟩
      · cases hx
      · cases hx
        exact ⟨_, h2, ⟨p, rfl, hp⟩, trivial⟩
    | 3 => cases hx
    | 4 => cases hx
    | 5 => cases hx
    | 6 => cases hx
    | 7 => cases hx
    | 8 => cases hx
    | 9 => cases hx
    | n + 10 => simp at hx
  ap := fun i j x y' v n hi hj m1 m2 s1 s2 => by
    match i with
    | 0 => cases hi; exact m1
    | 1 => cases hi; exact m1
    | 2 =>
      rcases hy with rfl | ⟨rfl, _⟩
      · cases hi
      · cases hi; exact m1
    | 3 => cases hi
    | 4 => cases hi
    | 5 => cases hi
    | 6 => cases hi
    | 7 => cases hi
    | 8 => cases hi
    | 9 => cases hi
    | n + 10 => simp at hi
  ext := .refl
  live := hv
  tab := ht
theorem ok_law {f : Addr} {fd : FuncData} (h1 : mg "law" = some (.ref f)) (F : FnP K "law" s_law f fd) (bi : Bi mg) (G__law_left : OkD P w K mg base T "_law_left" 1 2 S__law_left) (G__law_house : OkD P w K mg base T "_law_house" 2 1 S__law_house) (G__law_tree : OkD P w K mg base T "_law_tree" 34 2 S__law_tree) (G__law_box : OkD P w K mg base T "_law_box" 3 2 S__law_box) (G__law_plain : OkD P w K mg base T "_law_plain" 1 1 S__law_plain) (G__law_parted : OkD P w K mg base T "_law_parted" 33 5 (S__law_parted 30)) (G__law_cover_right : OkD P w K mg base T "_law_cover_right" 7 5 S__law_cover_right) (G__law_drawn_right : OkD P w K mg base T "_law_drawn_right" 8 6 S__law_drawn_right) : FnOk P w K mg base CX0 35 f fd ["_law_script"] (spLaw K T) := by
  have sc := sc_law
  refine F.ok sc (fun vs H Q E ⟨a, ns, hv, _⟩ => by rw [hv]; rfl) fun cdv A outer s H vs Q E hr ⟨a, ns, hvs, hS, hT, hQ⟩ => ?_
  subst hvs
  have hu := Room.units hr
  have hu1 : (cxD P w K mg base N_law "law" s_law f cdv A outer s H E).A.units + 1 < cLine := by have := hr.un; show (A.deeper _).units + 1 < cLine; omega
  have hu5 : (cxD P w K mg base N_law "law" s_law f cdv A outer s H E).A.units + 65 < cLine := by have := hr.un; show (A.deeper _).units + 65 < cLine; omega
  refine ⟨_, PSs.nox (pss_cons (ps_for PassesOwn.never rfl (pi_range1 rfl bi.range (pda_cons (ρ := none) (T := T) (H0 := H) (da := b_law_it) (dr := dNil) (pd_max2 rfl bi (pd_int) (pd_min2 rfl bi (pd_len bi (pd_var (pv 0))) (pd_int))) pda_nil)) (pg_name (i := 1) sc.nd rfl (by first | exact Or.inl rfl | exact Or.inr rfl))
    (pss_cons (ps_set (i := 2) sc.nd rfl (by first | exact Or.inl rfl | exact Or.inr rfl) (pe_ex (T := T) (d := b_law_left) fun ρ H0 => pd_fn (G__law_left.mono (by decide)) hr rfl (pda_cons (pd_var (pv 0)) (pda_cons (pd_var (pv 1)) (pda_nil))))) (pss_ex (T := T) (d := b_law_rest) fun ρ H0 => psd_cons (psd_setF (ps_set (i := 3) sc.nd rfl (by first | exact Or.inl rfl | exact Or.inr rfl) (pd_fn (G__law_house.mono (by decide)) hr rfl (pda_cons (pd_var (pv 2)) (pda_nil))))) (psd_cons (psd_setF (ps_set (i := 4) sc.nd rfl (by first | exact Or.inl rfl | exact Or.inr rfl) (pd_fn (G__law_tree.mono (by decide)) hr rfl (pda_cons (pd_var (pv 2)) (pda_cons (pd_var (pv 3)) (pda_nil)))))) (psd_one (psd_for PassesOwn.never rfl (pif_range rfl bi.range (pd_mul (pd_int) (pd_intc bi (pd_notN (pd_var (pv 4)))))) (pg_name (i := 5) sc.nd rfl (by first | exact Or.inl rfl | exact Or.inr rfl)) (psd_cons (psd_setF (ps_set (i := 6) sc.nd rfl (by first | exact Or.inl rfl | exact Or.inr rfl) (pd_fn (G__law_box.mono (by decide)) hr rfl (pda_cons (pd_var (pv 2)) (pda_cons (pd_var (pv 3)) (pda_nil)))))) (psd_cons (psd_setF (ps_set (i := 7) sc.nd rfl (by first | exact Or.inl rfl | exact Or.inr rfl) (pd_fn (G__law_plain.mono (by decide)) hr rfl (pda_cons (pd_var (pv 6)) (pda_nil))))) (psd_one (psd_for PassesOwn.never rfl (pif_tup (pd_tup (pda_cons (pd_int) (pda_cons (pd_int) (pda_cons (pd_int) (pda_cons (pd_int) (pda_nil))))))) (pg_name (i := 8) sc.nd rfl (by first | exact Or.inl rfl | exact Or.inr rfl)) (psd_cons (psd_setF (ps_set (i := 9) sc.nd rfl (by first | exact Or.inl rfl | exact Or.inr rfl) (pd_tuple bi (pd_fn (G__law_parted.mono (by decide)) hr rfl (pda_cons (pd_var (pv 2)) (pda_cons (pd_var (pv 4)) (pda_cons (pd_var (pv 7)) (pda_cons (pd_tup (pda_nil)) (pda_cons (pd_var (pv 8)) (pda_nil)))))))))) (psd_cons (psd_if (ptd_not (ptd_val (pd_fn (G__law_cover_right.mono (by decide)) hr rfl (pda_cons (pd_var (pv 3)) (pda_cons (pd_var (pv 4)) (pda_cons (pd_var (pv 6)) (pda_cons (pd_var (pv 7)) (pda_cons (pd_var (pv 9)) (pda_nil))))))))) (psd_one (psd_ret (pd_bl))) (psd_nil)) (psd_one (psd_if (ptd_not (ptd_val (pd_fn (G__law_drawn_right.mono (by decide)) hr rfl (pda_cons (pd_var (pv 2)) (pda_cons (pd_var (pv 3)) (pda_cons (pd_var (pv 4)) (pda_cons (pd_var (pv 6)) (pda_cons (pd_var (pv 7)) (pda_cons (pd_var (pv 9)) (pda_nil)))))))))) (psd_one (psd_ret (pd_bl))) (psd_nil)))))))))))))))
    (pss_one (ps_ret pe_bl))), ?_⟩
  have hS0 : SqS none K H a (ns.map V.int) := sqS_none hS
  have lv0 : ∀ H, Live none H := fun H b z => nomatch z
  have start0 : ER none K T H H (L2.start N_law [.ref a]) (startD 10 [.s ns]) := start_er ⟨.cons ⟨a, rfl, hS0⟩ .nil, fun x hx => by rw [List.mem_singleton.mp hx]; exact id, lv0 H, hT⟩
  refine ⟨_, fun xs => ∃ n : Nat, xs = [.d (.int n)] ∧ n ≤ 5, start0, ?_, fun vs H1 xs ⟨n, hxs, hn⟩ e1 rvs _ => ?_⟩
  · exact law_it (ns := ns) rfl fun n hn => ⟨n, rfl, hn⟩
  subst hxs
  obtain ⟨v, rfl, rv⟩ := rvs1 rvs
  have ev := rv_int rv
  subst ev
  refine ⟨n, rfl, by omega, by omega, ?_⟩
  have nn : ((n : Int)).toNat = n := Int.toNat_natCast n
  rw [nn]
  refine for_it (walk_range (lo := 0) (n := n)) (fun i σ' H' => σ'.length = 10 ∧ ∃ a, σ'[0]? = some (some (.ref a)) ∧ SqS none K H' a (ns.map V.int) ∧ Tabs T H') ⟨rfl, a, rfl, hS0.ext e1, e1.tb hT⟩ (fun _ _ _ _ _ => trivial) (fun i v σ' Ha Hb hi ⟨g1, a, g2, g3, g4⟩ ⟨hk, hv⟩ => ?_) (fun σ' H' _ => hQ H')
  subst hk hv
  -- a turn
  have l1 : (σ'.set 1 (some (.int (0 + (i : Int))))).length = 10 := by rw [List.length_set]; exact g1
  have a0 : (σ'.set 1 (some (.int (0 + (i : Int)))))[0]? = some (some (.ref a)) := by rw [List.getElem?_set_ne (by decide)]; exact g2
  have a1 : (σ'.set 1 (some (V.int (0 + (i : Int)))))[1]? = some (some (.int (0 + (i : Int)))) := by rw [List.getElem?_set_self (by omega)]
  have r0 := er_one (T := T) (k := 0 + (i : Int)) l1 a0 g3 a1 (lv0 _) g4 none (.inl rfl)
  refine ⟨none, _, _, fun x => ∃ y1 y2 y3 : Int, x = .o [.int y1, .int y2, .int y3], r0, ?_, fun v H1 x ⟨y1, y2, y3, hx⟩ e2 r2 => ?_⟩
  · exact ⟨_, rfl, _, rfl, ns, 0 + (i : Int), rfl, by omega, by omega, fun x y z => ⟨x, y, z, rfl⟩⟩
  subst hx
  obtain ⟨p, vs, rfl, _, fp, hp, hrd⟩ := r2
  have evs : vs = [.int y1, .int y2, .int y3] := hrd.ints (ns := [y1, y2, y3])
  subst evs
  have g3' : SqS (some p) K H1 a (ns.map V.int) := by
    rcases g3 with ⟨q | ⟨o, q⟩, _⟩ | q
    · exact .inl ⟨.inl (e2.st a _ q (fun z => nomatch z) fun _ z => nomatch z), fun z => by cases z; exact fp.no q fun _ z => nomatch z⟩
    · exact .inl ⟨.inr ⟨o, e2.st a _ q (fun z => nomatch z) fun _ z => nomatch z⟩, fun z => by cases z; exact fp.no q fun _ z => nomatch z⟩
    · exact .inr q
  have r1 := er_one (T := T) (ρ := some p) (H := H1) (σ := (σ'.set 1 (some (V.int (0 + (i : Int))))).set 2 (some (.ref p))) (a := a) (ns := ns) (k := 0 + (i : Int)) (by rw [List.length_set]; exact l1) (by rw [List.getElem?_set_ne (by decide)]; exact a0) g3' (by rw [List.getElem?_set_ne (by decide)]; exact a1) (fun b hb => by cases hb; exact ⟨_, _, _, hp⟩) (e2.tb g4) (some .rng) (.inr ⟨rfl, p, rfl, by rw [List.getElem?_set_self (by omega)]⟩)
  refine ⟨some p, H1, _, { nx := fun e' => ∃ x y z w u v s, e' = [some (.s ns), some (.d (.int (0 + (i : Int)))), some .rng, x, y, z, w, u, v, s], rt := fun _ => False }, r1, law_rest (fun x y z w u v s => ⟨x, y, z, w, u, v, s, rfl⟩) none none none none none none none, fun σ3 H3 e3 ⟨x, y, z, w, u, v, s, he⟩ r3 _ => ?_, fun _ _ _ q => q.elim, fun _ _ _ q => q.elim, fun _ _ _ q => q.elim⟩
  subst he
  obtain ⟨v0, b0, ⟨a', rfl, b2⟩, b3⟩ := r3.sl 0 _ rfl
  refine ⟨r3.len, a', b0, ?_, r3.tab⟩
  rcases b2 with ⟨q, _⟩ | q
  · exact .inl ⟨q, fun z => nomatch z⟩
  · exact .inr q
end
end Bx
namespace Bx
open PySem PySem.Spec PyProof.Rows L2
def D_fits_low : He.DefD := ⟨("fits_low", none), "fits_low", "fits_low", defArgs s_fits_low, defBody s_fits_low, defScope s_fits_low, [], []⟩
def D_fits_high : He.DefD := ⟨("fits_high", none), "fits_high", "fits_high", defArgs s_fits_high, defBody s_fits_high, defScope s_fits_high, [], []⟩
def D_fits_span : He.DefD := ⟨("fits_span", none), "fits_span", "fits_span", defArgs s_fits_span, defBody s_fits_span, defScope s_fits_span, [], []⟩
def D_fits : He.DefD := ⟨("fits", none), "fits", "fits", defArgs s_fits, defBody s_fits, defScope s_fits, [], []⟩
def D_plain_span : He.DefD := ⟨("plain_span", none), "plain_span", "plain_span", defArgs s_plain_span, defBody s_plain_span, defScope s_plain_span, [], []⟩
def D_is_crossed : He.DefD := ⟨("is_crossed", none), "is_crossed", "is_crossed", defArgs s_is_crossed, defBody s_is_crossed, defScope s_is_crossed, [], []⟩
def D_plain_of : He.DefD := ⟨("plain_of", none), "plain_of", "plain_of", defArgs s_plain_of, defBody s_plain_of, defScope s_plain_of, [], []⟩
def D_plain_box : He.DefD := ⟨("plain_box", none), "plain_box", "plain_box", defArgs s_plain_box, defBody s_plain_box, defScope s_plain_box, [], []⟩
def D_greater_of : He.DefD := ⟨("greater_of", none), "greater_of", "greater_of", defArgs s_greater_of, defBody s_greater_of, defScope s_greater_of, [], []⟩
def D_lesser_of : He.DefD := ⟨("lesser_of", none), "lesser_of", "lesser_of", defArgs s_lesser_of, defBody s_lesser_of, defScope s_lesser_of, [], []⟩
def D_common : He.DefD := ⟨("common", none), "common", "common", defArgs s_common, defBody s_common, defScope s_common, [], []⟩
def D_lies_within : He.DefD := ⟨("lies_within", none), "lies_within", "lies_within", defArgs s_lies_within, defBody s_lies_within, defScope s_lies_within, [], []⟩
def D_things_in : He.DefD := ⟨("things_in", none), "things_in", "things_in", defArgs s_things_in, defBody s_things_in, defScope s_things_in, [], []⟩
def D_by_place : He.DefD := ⟨("by_place", none), "by_place", "by_place", defArgs s_by_place, defBody s_by_place, defScope s_by_place, [], []⟩
def D_names_of : He.DefD := ⟨("names_of", none), "names_of", "names_of", defArgs s_names_of, defBody s_names_of, defScope s_names_of, [], []⟩
def D_in_order : He.DefD := ⟨("in_order", none), "in_order", "in_order", defArgs s_in_order, defBody s_in_order, defScope s_in_order, [], []⟩
def D_answer_of : He.DefD := ⟨("answer_of", none), "answer_of", "answer_of", defArgs s_answer_of, defBody s_answer_of, defScope s_answer_of, [], []⟩
def D_answer : He.DefD := ⟨("answer", none), "answer", "answer", defArgs s_answer, defBody s_answer, defScope s_answer, [], []⟩
def D_lies_out : He.DefD := ⟨("lies_out", none), "lies_out", "lies_out", defArgs s_lies_out, defBody s_lies_out, defScope s_lies_out, [], []⟩
def D_tree_at : He.DefD := ⟨("tree_at", none), "tree_at", "tree_at", defArgs s_tree_at, defBody s_tree_at, defScope s_tree_at, [], []⟩
def D_by_cover : He.DefD := ⟨("by_cover", none), "by_cover", "by_cover", defArgs s_by_cover, defBody s_by_cover, defScope s_by_cover, [], []⟩
def D_is_count : He.DefD := ⟨("is_count", none), "is_count", "is_count", defArgs s_is_count, defBody s_is_count, defScope s_is_count, [], []⟩
def D_is_path : He.DefD := ⟨("is_path", none), "is_path", "is_path", defArgs s_is_path, defBody s_is_path, defScope s_is_path, [], []⟩
def D_there : He.DefD := ⟨("there", none), "there", "there", defArgs s_there, defBody s_there, defScope s_there, [], []⟩
def D_is_out : He.DefD := ⟨("is_out", none), "is_out", "is_out", defArgs s_is_out, defBody s_is_out, defScope s_is_out, [], []⟩
def D_is_in : He.DefD := ⟨("is_in", none), "is_in", "is_in", defArgs s_is_in, defBody s_is_in, defScope s_is_in, [], []⟩
def D_has_each_once : He.DefD := ⟨("has_each_once", none), "has_each_once", "has_each_once", defArgs s_has_each_once, defBody s_has_each_once, defScope s_has_each_once, [], []⟩
def D_shows_cover : He.DefD := ⟨("shows_cover", none), "shows_cover", "shows_cover", defArgs s_shows_cover, defBody s_shows_cover, defScope s_shows_cover, [], []⟩
def D_steps_to : He.DefD := ⟨("steps_to", none), "steps_to", "steps_to", defArgs s_steps_to, defBody s_steps_to, defScope s_steps_to, [], []⟩
def D_worths_of : He.DefD := ⟨("worths_of", none), "worths_of", "worths_of", defArgs s_worths_of, defBody s_worths_of, defScope s_worths_of, [], []⟩
def D_key_by : He.DefD := ⟨("key_by", none), "key_by", "key_by", defArgs s_key_by, defBody s_key_by, defScope s_key_by, [], []⟩
def D_is_name_of : He.DefD := ⟨("is_name_of", none), "is_name_of", "is_name_of", defArgs s_is_name_of, defBody s_is_name_of, defScope s_is_name_of, [], []⟩
def D_keys_told : He.DefD := ⟨("keys_told", none), "keys_told", "keys_told", defArgs s_keys_told, defBody s_keys_told, defScope s_keys_told, [], []⟩
def D_is_far : He.DefD := ⟨("is_far", none), "is_far", "is_far", defArgs s_is_far, defBody s_is_far, defScope s_is_far, [], []⟩
def D_parts_show : He.DefD := ⟨("parts_show", none), "parts_show", "parts_show", defArgs s_parts_show, defBody s_parts_show, defScope s_parts_show, [], []⟩
def D_shows_drawn : He.DefD := ⟨("shows_drawn", none), "shows_drawn", "shows_drawn", defArgs s_shows_drawn, defBody s_shows_drawn, defScope s_shows_drawn, [], []⟩
def D__law_left : He.DefD := ⟨("_law_left", none), "_law_left", "_law_left", defArgs s__law_left, defBody s__law_left, defScope s__law_left, [], []⟩
def D__law_pick : He.DefD := ⟨("_law_pick", none), "_law_pick", "_law_pick", defArgs s__law_pick, defBody s__law_pick, defScope s__law_pick, [], []⟩
def D__law_house : He.DefD := ⟨("_law_house", none), "_law_house", "_law_house", defArgs s__law_house, defBody s__law_house, defScope s__law_house, [], []⟩
def D__law_number : He.DefD := ⟨("_law_number", none), "_law_number", "_law_number", defArgs s__law_number, defBody s__law_number, defScope s__law_number, [], []⟩
def D__law_box : He.DefD := ⟨("_law_box", none), "_law_box", "_law_box", defArgs s__law_box, defBody s__law_box, defScope s__law_box, [], []⟩
def D__law_kind : He.DefD := ⟨("_law_kind", none), "_law_kind", "_law_kind", defArgs s__law_kind, defBody s__law_kind, defScope s__law_kind, [], []⟩
def D__law_bounds : He.DefD := ⟨("_law_bounds", none), "_law_bounds", "_law_bounds", defArgs s__law_bounds, defBody s__law_bounds, defScope s__law_bounds, [], []⟩
def D__law_grown : He.DefD := ⟨("_law_grown", none), "_law_grown", "_law_grown", defArgs s__law_grown, defBody s__law_grown, defScope s__law_grown, [], []⟩
def D__law_tree : He.DefD := ⟨("_law_tree", none), "_law_tree", "_law_tree", defArgs s__law_tree, defBody s__law_tree, defScope s__law_tree, [], []⟩
def D__law_plain : He.DefD := ⟨("_law_plain", none), "_law_plain", "_law_plain", defArgs s__law_plain, defBody s__law_plain, defScope s__law_plain, [], []⟩
def D__law_beyond : He.DefD := ⟨("_law_beyond", none), "_law_beyond", "_law_beyond", defArgs s__law_beyond, defBody s__law_beyond, defScope s__law_beyond, [], []⟩
def D__law_inside : He.DefD := ⟨("_law_inside", none), "_law_inside", "_law_inside", defArgs s__law_inside, defBody s__law_inside, defScope s__law_inside, [], []⟩
def D__law_fits : He.DefD := ⟨("_law_fits", none), "_law_fits", "_law_fits", defArgs s__law_fits, defBody s__law_fits, defScope s__law_fits, [], []⟩
def D__law_steps : He.DefD := ⟨("_law_steps", none), "_law_steps", "_law_steps", defArgs s__law_steps, defBody s__law_steps, defScope s__law_steps, [], []⟩
def D__law_key : He.DefD := ⟨("_law_key", none), "_law_key", "_law_key", defArgs s__law_key, defBody s__law_key, defScope s__law_key, [], []⟩
def D__law_ranked : He.DefD := ⟨("_law_ranked", none), "_law_ranked", "_law_ranked", defArgs s__law_ranked, defBody s__law_ranked, defScope s__law_ranked, [], []⟩
def D__law_at : He.DefD := ⟨("_law_at", none), "_law_at", "_law_at", defArgs s__law_at, defBody s__law_at, defScope s__law_at, [], []⟩
def D__law_whole : He.DefD := ⟨("_law_whole", none), "_law_whole", "_law_whole", defArgs s__law_whole, defBody s__law_whole, defScope s__law_whole, [], []⟩
def D__law_there : He.DefD := ⟨("_law_there", none), "_law_there", "_law_there", defArgs s__law_there, defBody s__law_there, defScope s__law_there, [], []⟩
def D__law_out_right : He.DefD := ⟨("_law_out_right", none), "_law_out_right", "_law_out_right", defArgs s__law_out_right, defBody s__law_out_right, defScope s__law_out_right, [], []⟩
def D__law_is_cover : He.DefD := ⟨("_law_is_cover", none), "_law_is_cover", "_law_is_cover", defArgs s__law_is_cover, defBody s__law_is_cover, defScope s__law_is_cover, [], []⟩
def D__law_thing_key : He.DefD := ⟨("_law_thing_key", none), "_law_thing_key", "_law_thing_key", defArgs s__law_thing_key, defBody s__law_thing_key, defScope s__law_thing_key, [], []⟩
def D__law_show : He.DefD := ⟨("_law_show", none), "_law_show", "_law_show", defArgs s__law_show, defBody s__law_show, defScope s__law_show, [], []⟩
def D__law_is_paper : He.DefD := ⟨("_law_is_paper", none), "_law_is_paper", "_law_is_paper", defArgs s__law_is_paper, defBody s__law_is_paper, defScope s__law_is_paper, [], []⟩
def D__law_parted : He.DefD := ⟨("_law_parted", none), "_law_parted", "_law_parted", defArgs s__law_parted, defBody s__law_parted, defScope s__law_parted, [], []⟩
def D__law_cover_right : He.DefD := ⟨("_law_cover_right", none), "_law_cover_right", "_law_cover_right", defArgs s__law_cover_right, defBody s__law_cover_right, defScope s__law_cover_right, [], []⟩
def D__law_drawn_right : He.DefD := ⟨("_law_drawn_right", none), "_law_drawn_right", "_law_drawn_right", defArgs s__law_drawn_right, defBody s__law_drawn_right, defScope s__law_drawn_right, [], []⟩
def D_law : He.DefD := ⟨("law", none), "law", "law", defArgs s_law, defBody s_law, defScope s_law, [], []⟩
def fn0 : List He.DefD := [D_fits_low, D_fits_high, D_fits_span, D_fits, D_plain_span, D_is_crossed, D_plain_of, D_plain_box, D_greater_of, D_lesser_of, D_common, D_lies_within, D_things_in, D_by_place, D_names_of, D_in_order, D_answer_of, D_answer, D_lies_out, D_tree_at, D_by_cover, D_is_count, D_is_path, D_there, D_is_out, D_is_in, D_has_each_once, D_shows_cover, D_steps_to, D_worths_of]
def fn1 : List He.DefD := [D_key_by, D_is_name_of, D_keys_told, D_is_far, D_parts_show, D_shows_drawn, D__law_left, D__law_pick, D__law_house, D__law_number, D__law_box, D__law_kind, D__law_bounds, D__law_grown, D__law_tree, D__law_plain, D__law_beyond, D__law_inside, D__law_fits, D__law_steps, D__law_key, D__law_ranked, D__law_at, D__law_whole, D__law_there, D__law_out_right, D__law_is_cover, D__law_thing_key, D__law_show, D__law_is_paper]
def fn2 : List He.DefD := [D__law_parted, D__law_cover_right, D__law_drawn_right, D_law]
def fn : List He.DefD := fn0 ++ fn1 ++ fn2
def fa0 : List He.Fa := [.free "len", .free "zip", .free "all", .free "any", .free "tuple", .free "list", .free "dict", .free "sorted", .free "sum", .free "min", .free "max", .free "abs", .free "int", .free "isinstance", .free "range", .free "bool", .free "str"]
def fa1 : List He.Fa := [.glo "fits_low", .glo "fits_high", .glo "fits_span", .glo "fits", .glo "plain_span", .glo "is_crossed", .glo "plain_of", .glo "plain_box", .glo "greater_of", .glo "lesser_of", .glo "common", .glo "lies_within", .glo "things_in", .glo "by_place", .glo "names_of", .glo "in_order", .glo "answer_of", .glo "answer", .glo "lies_out", .glo "tree_at", .glo "by_cover", .glo "is_count", .glo "is_path", .glo "there", .glo "is_out", .glo "is_in", .glo "has_each_once", .glo "shows_cover", .glo "steps_to", .glo "worths_of"]
def fa2 : List He.Fa := [.glo "key_by", .glo "is_name_of", .glo "keys_told", .glo "is_far", .glo "parts_show", .glo "shows_drawn", .glo "_law_left", .glo "_law_pick", .glo "_law_house", .glo "_law_number", .glo "_law_box", .glo "_law_kind", .glo "_law_bounds", .glo "_law_grown", .glo "_law_tree", .glo "_law_plain", .glo "_law_beyond", .glo "_law_inside", .glo "_law_fits", .glo "_law_steps", .glo "_law_key", .glo "_law_ranked", .glo "_law_at", .glo "_law_whole", .glo "_law_there", .glo "_law_out_right", .glo "_law_is_cover", .glo "_law_thing_key", .glo "_law_show", .glo "_law_is_paper"]
def fa3 : List He.Fa := [.glo "_law_parted", .glo "_law_cover_right", .glo "_law_drawn_right", .glo "law"]
def fa : List He.Fa := fa0 ++ [.glo "EMPTY_boxes", .glo "EMPTY_covers"] ++ fa1 ++ fa2 ++ fa3
def lo0 : List Str := ["EMPTY_boxes", "fits_low", "fits_high", "fits_span", "fits", "plain_span", "is_crossed", "plain_of", "plain_box", "greater_of", "lesser_of", "common", "lies_within", "steps", "things_in", "by_place", "by_worth", "by_worth_down", "names_of", "in_order", "best_first", "nearest_first", "name_of_first", "answer_of", "answer", "EMPTY_covers", "lies_out", "tree_at", "by_cover", "is_count"]
def lo1 : List Str := ["is_path", "there", "is_out", "is_in", "has_each_once", "shows_cover", "steps_to", "worths_of", "key_by", "is_name_of", "keys_told", "is_far", "parts_show", "shows_drawn", "_law_left", "_law_pick", "_law_house", "_law_number", "_law_box", "_law_kind", "_law_bounds", "_law_grown", "_law_tree", "_law_plain", "_law_beyond", "_law_inside", "_law_fits", "_law_steps", "_law_key", "_law_ranked"]
def lo2 : List Str := ["_law_at", "_law_whole", "_law_there", "_law_out_right", "_law_is_cover", "_law_thing_key", "_law_show", "_law_is_paper", "_law_parted", "_law_cover_right", "_law_drawn_right"]
def loose : List Str := lo0 ++ lo1 ++ lo2
def tf : List He.Defn := [("_law_grown", none)]
def ex (K : PySem.W.Frag) : Bool := He.tupB K "EMPTY_boxes" [.int 1, .int 0] && He.tupB K "EMPTY_covers" [.int 1, .int 0]
abbrev R : PySem.W.OpenRow := PySem.W.OpenLaw.row PySem.Challenge.rw_boxlayers_k52_whole_what_is_taken_tells
abbrev hk : PySem.W.Hook := He.hookX 4 fa fn [] tf ex
def ob (s : PySem.W.SharedT) : He.AlX := He.obsX 4 fa fn [] tf ex (HandSHeadRun.getT s)
theorem ob_eq (s : PySem.W.SharedT) : ob s = hk.obs s.abs := He.obsX_eq (HandSHeadRun.getT_eq s)
theorem run (w : World) : HandSHeadRun.RunEq R (PySem.W.view R.prog [80]) hk ob 4000 loose w := by
  intro os
  kernel_rfl
end Bx
/-! G3: the defs one upon the other; printed by mkg3.py -/
namespace Bx
open PySem PySem.Spec PyProof.Rows L2
open LamX (Tabs TabB)
/-- a def never called so -/
theorem OkD.none {P : Program} {w : World} {K : PySem.W.Frag} {mg : Str → Option Value} {base : Heap} {T : Tb} {x : Str} {st : Stmt} {ps : List Str} {k n : Nat} {S : DF} (F : Src K mg x st) (hb : ∀ (kV doc pm : Value) (an : Option Addr) (cdv ct : Value) (us : List Value), us.length = ps.length → bindArgs (PySem.W.fnOf x x (defArgs st) (defBody st) (defScope st) .none kV doc pm an cdv ct) ⟨us, []⟩ = pure (ps.zip us))
    (hs : ∀ xs Q, S xs Q → False) : OkD P w K mg base T x k n S := by
  obtain ⟨f, fd, h1, F⟩ := F
  exact ⟨f, fd, ps, h1, F.kp, F.bindsN hb, ⟨fun vs H Q E ⟨ρ, xs, Pq, a, b, c, d⟩ => (hs _ _ c).elim, fun A outer s H args us vs Q E hr he hb hv ⟨ρ, xs, Pq, a, b, c, d⟩ => (hs _ _ c).elim⟩⟩
/-- where all stand -/
structure Srcs (K : PySem.W.Frag) (mg : Str → Option Value) : Prop where
  f_fits_low : Src K mg "fits_low" s_fits_low
  f_fits_high : Src K mg "fits_high" s_fits_high
  f_fits_span : Src K mg "fits_span" s_fits_span
  f_fits : Src K mg "fits" s_fits
  f_plain_span : Src K mg "plain_span" s_plain_span
  f_is_crossed : Src K mg "is_crossed" s_is_crossed
  f_plain_of : Src K mg "plain_of" s_plain_of
  f_plain_box : Src K mg "plain_box" s_plain_box
  f_greater_of : Src K mg "greater_of" s_greater_of
  f_lesser_of : Src K mg "lesser_of" s_lesser_of
  f_common : Src K mg "common" s_common
  f_lies_within : Src K mg "lies_within" s_lies_within
  f_things_in : Src K mg "things_in" s_things_in
  f_by_place : Src K mg "by_place" s_by_place
  f_names_of : Src K mg "names_of" s_names_of
  f_in_order : Src K mg "in_order" s_in_order
  f_answer_of : Src K mg "answer_of" s_answer_of
  f_answer : Src K mg "answer" s_answer
  f_lies_out : Src K mg "lies_out" s_lies_out
  f_tree_at : Src K mg "tree_at" s_tree_at
  f_by_cover : Src K mg "by_cover" s_by_cover
  f_is_count : Src K mg "is_count" s_is_count
  f_is_path : Src K mg "is_path" s_is_path
  f_there : Src K mg "there" s_there
  f_is_out : Src K mg "is_out" s_is_out
  f_is_in : Src K mg "is_in" s_is_in
  f_has_each_once : Src K mg "has_each_once" s_has_each_once
  f_shows_cover : Src K mg "shows_cover" s_shows_cover
  f_steps_to : Src K mg "steps_to" s_steps_to
  f_worths_of : Src K mg "worths_of" s_worths_of
  f_key_by : Src K mg "key_by" s_key_by
  f_is_name_of : Src K mg "is_name_of" s_is_name_of
  f_keys_told : Src K mg "keys_told" s_keys_told
  f_is_far : Src K mg "is_far" s_is_far
  f_parts_show : Src K mg "parts_show" s_parts_show
  f_shows_drawn : Src K mg "shows_drawn" s_shows_drawn
  f__law_left : Src K mg "_law_left" s__law_left
  f__law_pick : Src K mg "_law_pick" s__law_pick
  f__law_house : Src K mg "_law_house" s__law_house
  f__law_number : Src K mg "_law_number" s__law_number
  f__law_box : Src K mg "_law_box" s__law_box
  f__law_kind : Src K mg "_law_kind" s__law_kind
  f__law_bounds : Src K mg "_law_bounds" s__law_bounds
  f__law_grown : Src K mg "_law_grown" s__law_grown
  f__law_tree : Src K mg "_law_tree" s__law_tree
  f__law_plain : Src K mg "_law_plain" s__law_plain
  f__law_beyond : Src K mg "_law_beyond" s__law_beyond
  f__law_inside : Src K mg "_law_inside" s__law_inside
  f__law_fits : Src K mg "_law_fits" s__law_fits
  f__law_steps : Src K mg "_law_steps" s__law_steps
  f__law_key : Src K mg "_law_key" s__law_key
  f__law_ranked : Src K mg "_law_ranked" s__law_ranked
  f__law_at : Src K mg "_law_at" s__law_at
  f__law_whole : Src K mg "_law_whole" s__law_whole
  f__law_there : Src K mg "_law_there" s__law_there
  f__law_out_right : Src K mg "_law_out_right" s__law_out_right
  f__law_is_cover : Src K mg "_law_is_cover" s__law_is_cover
  f__law_thing_key : Src K mg "_law_thing_key" s__law_thing_key
  f__law_show : Src K mg "_law_show" s__law_show
  f__law_is_paper : Src K mg "_law_is_paper" s__law_is_paper
  f__law_parted : Src K mg "_law_parted" s__law_parted
  f__law_cover_right : Src K mg "_law_cover_right" s__law_cover_right
  f__law_drawn_right : Src K mg "_law_drawn_right" s__law_drawn_right
  f_law : Src K mg "law" s_law
theorem grown_none : ∀ xs Q, S__law_grown 0 xs Q → False := by
  rintro xs Q ⟨d, ts, tn, _, _, _, hne, hz, _⟩
  exact hne (List.eq_nil_of_length_eq_zero (by omega))
theorem parted_none : ∀ xs Q, S__law_parted 0 xs Q → False := by
  rintro xs Q ⟨d, ts, t, pl, p, often, _, w, hz, _⟩
  exact w.ne (List.eq_nil_of_length_eq_zero (by omega))
theorem all_ok {P : Program} {w : World} {K : PySem.W.Frag} {mg : Str → Option Value} {base : Heap} {c Pt : Addr} (F : Srcs K mg) (FC : SrcC K mg "_law_grown" s__law_grown c) (bi : Bi mg) (bg : Bg K mg) (TB : TabB base mg c Pt)
    {f : Addr} {fd : FuncData} (h1 : mg "law" = some (.ref f)) (FL : FnP K "law" s_law f fd) : FnOk P w K mg base CX0 35 f fd ["_law_script"] (spLaw K [(Pt, qL)]) := by
  have O__law_pick : OkD P w K mg base [(Pt, qL)] "_law_pick" 1 2 S__law_pick := ok__law_pick F.f__law_pick
  have O__law_left : OkD P w K mg base [(Pt, qL)] "_law_left" 1 2 S__law_left := (ok__law_left  F.f__law_left bi).imp fun vs Q _ h => law__law_left vs Q h
  have O__law_house : OkD P w K mg base [(Pt, qL)] "_law_house" 2 1 S__law_house := (ok__law_house O__law_pick F.f__law_house bi).imp fun vs Q _ h => law__law_house vs Q h
  have O__law_bounds : OkD P w K mg base [(Pt, qL)] "_law_bounds" 1 1 S__law_bounds := (ok__law_bounds  F.f__law_bounds bi).imp fun vs Q _ h => law__law_bounds vs Q h
  have O__law_grown0 : ∀ k, k ≤ 30 → OkD P w K mg base [(Pt, qL)] "_law_grown" (2 + k) 4 (S__law_grown k) := by
    intro k
    induction k with
    | zero => exact fun _ => OkD.none (ps := ["_law_left_here", "_law_d", "_law_things", "_law_turn"]) F.f__law_grown (fun _ _ _ _ _ _ us hl => match us, hl with | [_, _, _, _], _ => rfl) grown_none
    | succ k ih =>
      intro hk
      have ih := ih (by omega)
      exact (ok__law_grown (k := 2 + k) (by omega) O__law_bounds O__law_pick ih FC bi TB (List.mem_singleton.mpr rfl) (fun p hp _ => by rw [List.mem_singleton.mp hp])).imp fun vs Q _ h => law__law_grown k (by omega) vs Q h
  have O__law_grown : OkD P w K mg base [(Pt, qL)] "_law_grown" 33 4 (S__law_grown 30) := (O__law_grown0 30 (by omega)).mono (by omega)
  have O__law_tree : OkD P w K mg base [(Pt, qL)] "_law_tree" 34 2 S__law_tree := (ok__law_tree O__law_grown F.f__law_tree bi).imp fun vs Q _ h => law__law_tree vs Q h
  have O__law_number : OkD P w K mg base [(Pt, qL)] "_law_number" 2 3 S__law_number := (ok__law_number O__law_pick F.f__law_number bi).imp fun vs Q _ h => law__law_number vs Q h
  have O__law_box : OkD P w K mg base [(Pt, qL)] "_law_box" 3 2 S__law_box := (ok__law_box O__law_number O__law_pick F.f__law_box bi).imp fun vs Q _ h => law__law_box vs Q h
  have O__law_plain : OkD P w K mg base [(Pt, qL)] "_law_plain" 1 1 S__law_plain := (ok__law_plain  F.f__law_plain bi).imp fun vs Q _ h => law__law_plain vs Q h
  have O__law_beyond : OkD P w K mg base [(Pt, qL)] "_law_beyond" 1 4 S__law_beyond := (ok__law_beyond  F.f__law_beyond bi).imp fun vs Q _ h => law__law_beyond vs Q h
  have O__law_parted0 : ∀ k, k ≤ 30 → OkD P w K mg base [(Pt, qL)] "_law_parted" (2 + k) 5 (S__law_parted k) := by
    intro k
    induction k with
    | zero => exact fun _ => OkD.none (ps := ["_law_left_here", "_law_tree_here", "_law_plain_here", "_law_path", "_law_often"]) F.f__law_parted (fun _ _ _ _ _ _ us hl => match us, hl with | [_, _, _, _, _], _ => rfl) parted_none
    | succ k ih =>
      intro hk
      have ih := ih (by omega)
      exact (ok__law_parted (k := 2 + k) (by omega) O__law_pick ih O__law_beyond F.f__law_parted bi).imp fun vs Q _ h => law__law_parted k (by omega) vs Q h
  have O__law_parted : OkD P w K mg base [(Pt, qL)] "_law_parted" 33 5 (S__law_parted 30) := (O__law_parted0 30 (by omega)).mono (by omega)
  have O_is_crossed : OkD P w K mg base [(Pt, qL)] "is_crossed" 1 1 S_is_crossed := (ok_is_crossed  F.f_is_crossed bi).imp fun vs Q _ h => law_is_crossed vs Q h
  have O_plain_of : OkD P w K mg base [(Pt, qL)] "plain_of" 2 1 S_plain_of := (ok_plain_of O_is_crossed F.f_plain_of bi bg).imp fun vs Q _ h => law_plain_of vs Q h
  have O_plain_span : OkD P w K mg base [(Pt, qL)] "plain_span" 1 1 S_plain_span := (ok_plain_span  F.f_plain_span bi).imp fun vs Q _ h => law_plain_span vs Q h
  have O_plain_box : OkD P w K mg base [(Pt, qL)] "plain_box" 3 1 S_plain_box := (ok_plain_box O_plain_of O_plain_span F.f_plain_box bi).imp fun vs Q _ h => law_plain_box vs Q h
  have O_is_count : OkD P w K mg base [(Pt, qL)] "is_count" 1 2 S_is_count := (ok_is_count  F.f_is_count bi).imp fun vs Q _ h => law_is_count vs Q h
  have O_is_path : OkD P w K mg base [(Pt, qL)] "is_path" 2 1 S_is_path := (ok_is_path O_is_count F.f_is_path bi).imp fun vs Q _ h => law_is_path vs Q h
  have O_tree_at : OkD P w K mg base [(Pt, qL)] "tree_at" 1 2 S_tree_at := (ok_tree_at  F.f_tree_at bi).imp fun vs Q _ h => law_tree_at vs Q h
  have O_there : OkD P w K mg base [(Pt, qL)] "there" 3 2 S_there := (ok_there O_is_path O_tree_at F.f_there bi).imp fun vs Q _ h => law_there vs Q h
  have O_lesser_of : OkD P w K mg base [(Pt, qL)] "lesser_of" 1 2 S_lesser_of := (ok_lesser_of  F.f_lesser_of bi).imp fun vs Q _ h => law_lesser_of vs Q h
  have O_greater_of : OkD P w K mg base [(Pt, qL)] "greater_of" 1 2 S_greater_of := (ok_greater_of  F.f_greater_of bi).imp fun vs Q _ h => law_greater_of vs Q h
  have O_common : OkD P w K mg base [(Pt, qL)] "common" 3 2 S_common := (ok_common O_lesser_of O_greater_of O_plain_of F.f_common bi).imp fun vs Q _ h => law_common vs Q h
  have O_lies_within : OkD P w K mg base [(Pt, qL)] "lies_within" 4 2 S_lies_within := (ok_lies_within O_common F.f_lies_within bi).imp fun vs Q _ h => law_lies_within vs Q h
  have O_is_in : OkD P w K mg base [(Pt, qL)] "is_in" 5 3 S_is_in := (ok_is_in O_lies_within F.f_is_in bi).imp fun vs Q _ h => law_is_in vs Q h
  have O_lies_out : OkD P w K mg base [(Pt, qL)] "lies_out" 1 4 S_lies_out := (ok_lies_out  F.f_lies_out bi bg).imp fun vs Q _ h => law_lies_out vs Q h
  have O_is_out : OkD P w K mg base [(Pt, qL)] "is_out" 2 3 S_is_out := (ok_is_out O_is_count O_lies_out F.f_is_out bi).imp fun vs Q _ h => law_is_out vs Q h
  have O_has_each_once : OkD P w K mg base [(Pt, qL)] "has_each_once" 1 2 S_has_each_once := (ok_has_each_once  F.f_has_each_once bi).imp fun vs Q _ h => law_has_each_once vs Q h
  have O_shows_cover : OkD P w K mg base [(Pt, qL)] "shows_cover" 6 4 S_shows_cover := (ok_shows_cover O_plain_box O_there O_is_in O_is_out O_has_each_once F.f_shows_cover bi).imp fun vs Q _ h => law_shows_cover vs Q h
  have O__law_whole : OkD P w K mg base [(Pt, qL)] "_law_whole" 1 2 S__law_whole := (ok__law_whole  F.f__law_whole bi).imp fun vs Q _ h => law__law_whole vs Q h
  have O__law_at : OkD P w K mg base [(Pt, qL)] "_law_at" 1 2 S__law_at := (ok__law_at  F.f__law_at bi).imp fun vs Q _ h => law__law_at vs Q h
  have O__law_there : OkD P w K mg base [(Pt, qL)] "_law_there" 2 2 S__law_there := (ok__law_there O__law_whole O__law_at F.f__law_there bi).imp fun vs Q _ h => law__law_there vs Q h
  have O__law_out_right : OkD P w K mg base [(Pt, qL)] "_law_out_right" 2 3 S__law_out_right := (ok__law_out_right O__law_whole O__law_beyond F.f__law_out_right bi).imp fun vs Q _ h => law__law_out_right vs Q h
  have O__law_inside : OkD P w K mg base [(Pt, qL)] "_law_inside" 1 2 S__law_inside := (ok__law_inside  F.f__law_inside bi).imp fun vs Q _ h => law__law_inside vs Q h
  have O__law_is_cover : OkD P w K mg base [(Pt, qL)] "_law_is_cover" 3 3 S__law_is_cover := (ok__law_is_cover O__law_there O__law_out_right O__law_inside F.f__law_is_cover bi).imp fun vs Q _ h => law__law_is_cover vs Q h
  have O__law_fits : OkD P w K mg base [(Pt, qL)] "_law_fits" 2 2 S__law_fits := (ok__law_fits O__law_inside F.f__law_fits bi).imp fun vs Q _ h => law__law_fits vs Q h
  have O_names_of : OkD P w K mg base [(Pt, qL)] "names_of" 1 1 S_names_of := (ok_names_of  F.f_names_of bi).imp fun vs Q _ h => law_names_of vs Q h
  have O_in_order : OkD P w K mg base [(Pt, qL)] "in_order" 2 1 S_in_order := (ok_in_order  F.f_in_order bi F.f_by_place).imp fun vs Q _ h => law_in_order vs Q h
  have O_answer_of : OkD P w K mg base [(Pt, qL)] "answer_of" 3 2 S_answer_of := (ok_answer_of O_names_of O_in_order F.f_answer_of bi).imp fun vs Q _ h => law_answer_of vs Q h
  have O_fits_low : OkD P w K mg base [(Pt, qL)] "fits_low" 1 2 S_fits_low := (ok_fits_low  F.f_fits_low bi).imp fun vs Q _ h => law_fits_low vs Q h
  have O_fits_high : OkD P w K mg base [(Pt, qL)] "fits_high" 1 2 S_fits_high := (ok_fits_high  F.f_fits_high bi).imp fun vs Q _ h => law_fits_high vs Q h
  have O_fits_span : OkD P w K mg base [(Pt, qL)] "fits_span" 2 2 S_fits_span := (ok_fits_span O_fits_low O_fits_high F.f_fits_span bi).imp fun vs Q _ h => law_fits_span vs Q h
  have O_fits : OkD P w K mg base [(Pt, qL)] "fits" 3 2 S_fits := (ok_fits O_fits_span F.f_fits bi).imp fun vs Q _ h => law_fits vs Q h
  have O_things_in : OkD P w K mg base [(Pt, qL)] "things_in" 4 2 S_things_in := (ok_things_in O_fits F.f_things_in bi).imp fun vs Q _ h => law_things_in vs Q h
  have O_answer : OkD P w K mg base [(Pt, qL)] "answer" 5 2 S_answer := (ok_answer O_answer_of O_things_in F.f_answer bi).imp fun vs Q _ h => law_answer vs Q h
  have O_by_cover : OkD P w K mg base [(Pt, qL)] "by_cover" 6 5 S_by_cover := (ok_by_cover O_tree_at O_answer F.f_by_cover bi).imp fun vs Q _ h => law_by_cover vs Q h
  have O__law_cover_right : OkD P w K mg base [(Pt, qL)] "_law_cover_right" 7 5 S__law_cover_right := (ok__law_cover_right O_shows_cover O__law_is_cover O__law_fits O_by_cover F.f__law_cover_right bi).imp fun vs Q _ h => law__law_cover_right vs Q h
  have O__law_kind : OkD P w K mg base [(Pt, qL)] "_law_kind" 3 2 S__law_kind := (ok__law_kind O__law_number O__law_pick F.f__law_kind bi).imp fun vs Q _ h => law__law_kind vs Q h
  have O__law_steps : OkD P w K mg base [(Pt, qL)] "_law_steps" 1 2 S__law_steps := (ok__law_steps  F.f__law_steps bi).imp fun vs Q _ h => law__law_steps vs Q h
  have O__law_ranked : OkD P w K mg base [(Pt, qL)] "_law_ranked" 3 3 S__law_ranked := (ok__law_ranked O__law_fits O__law_steps F.f__law_ranked bi).imp fun vs Q _ h => law__law_ranked vs Q h
  have O_worths_of : OkD P w K mg base [(Pt, qL)] "worths_of" 1 1 S_worths_of := (ok_worths_of  F.f_worths_of bi).imp fun vs Q _ h => law_worths_of vs Q h
  have O_is_name_of : OkD P w K mg base [(Pt, qL)] "is_name_of" 1 2 S_is_name_of := (ok_is_name_of  F.f_is_name_of bi).imp fun vs Q _ h => law_is_name_of vs Q h
  have O_steps_to : OkD P w K mg base [(Pt, qL)] "steps_to" 1 2 S_steps_to := (ok_steps_to  F.f_steps_to bi).imp fun vs Q _ h => law_steps_to vs Q h
  have O_keys_told : OkD P w K mg base [(Pt, qL)] "keys_told" 2 3 S_keys_told := (ok_keys_told O_steps_to F.f_keys_told bi).imp fun vs Q _ h => law_keys_told vs Q h
  have O_key_by : OkD P w K mg base [(Pt, qL)] "key_by" 2 3 S_key_by := (ok_key_by O_steps_to F.f_key_by bi).imp fun vs Q _ h => law_key_by vs Q h
  have O_is_far : OkD P w K mg base [(Pt, qL)] "is_far" 3 5 S_is_far := (ok_is_far O_key_by F.f_is_far bi).imp fun vs Q _ h => law_is_far vs Q h
  have O_parts_show : OkD P w K mg base [(Pt, qL)] "parts_show" 6 6 S_parts_show := (ok_parts_show O_worths_of O_plain_box O_there O_is_in O_is_out O_is_far O_has_each_once F.f_parts_show bi).imp fun vs Q _ h => law_parts_show vs Q h
  have O_shows_drawn : OkD P w K mg base [(Pt, qL)] "shows_drawn" 7 6 S_shows_drawn := (ok_shows_drawn O_worths_of O_is_name_of O_keys_told O_parts_show F.f_shows_drawn bi).imp fun vs Q _ h => law_shows_drawn vs Q h
  have O__law_thing_key : OkD P w K mg base [(Pt, qL)] "_law_thing_key" 2 3 S__law_thing_key := (ok__law_thing_key O__law_steps F.f__law_thing_key bi).imp fun vs Q _ h => law__law_thing_key vs Q h
  have O__law_key : OkD P w K mg base [(Pt, qL)] "_law_key" 2 3 S__law_key := (ok__law_key O__law_steps F.f__law_key bi).imp fun vs Q _ h => law__law_key vs Q h
  have O__law_show : OkD P w K mg base [(Pt, qL)] "_law_show" 3 6 S__law_show := (ok__law_show O__law_there O__law_inside O__law_key O__law_out_right F.f__law_show bi).imp fun vs Q _ h => law__law_show vs Q h
  have O__law_is_paper : OkD P w K mg base [(Pt, qL)] "_law_is_paper" 4 6 S__law_is_paper := (ok__law_is_paper O__law_whole O__law_thing_key O__law_show F.f__law_is_paper bi).imp fun vs Q _ h => law__law_is_paper vs Q h
  have O__law_drawn_right : OkD P w K mg base [(Pt, qL)] "_law_drawn_right" 8 6 S__law_drawn_right := (ok__law_drawn_right O__law_kind O__law_ranked O__law_pick O__law_at O_shows_drawn O__law_is_paper F.f__law_drawn_right bi).imp fun vs Q _ h => law__law_drawn_right vs Q h
  exact ok_law h1 FL bi O__law_left O__law_house O__law_tree O__law_box O__law_plain O__law_parted O__law_cover_right O__law_drawn_right
/-! the head tells them -/
theorem srcs {K : PySem.W.Frag} {h : Heap} {mg : Str → Option Value} (X : K.In h) (G : h.Ns mainGlobals mg) (c : He.SaysD fa fn K) : Srcs K mg where
  f_fits_low := by
    obtain ⟨fd, F⟩ := c.def_ 0 (d := D_fits_low) rfl
    exact ⟨_, fd, He.glo_ok X G (c.fact 19 (f := .glo "fits_low") rfl), F⟩
  f_fits_high := by
    obtain ⟨fd, F⟩ := c.def_ 1 (d := D_fits_high) rfl
    exact ⟨_, fd, He.glo_ok X G (c.fact 20 (f := .glo "fits_high") rfl), F⟩
  f_fits_span := by
    obtain ⟨fd, F⟩ := c.def_ 2 (d := D_fits_span) rfl
    exact ⟨_, fd, He.glo_ok X G (c.fact 21 (f := .glo "fits_span") rfl), F⟩
  f_fits := by
    obtain ⟨fd, F⟩ := c.def_ 3 (d := D_fits) rfl
    exact ⟨_, fd, He.glo_ok X G (c.fact 22 (f := .glo "fits") rfl), F⟩
  f_plain_span := by
    obtain ⟨fd, F⟩ := c.def_ 4 (d := D_plain_span) rfl
    exact ⟨_, fd, He.glo_ok X G (c.fact 23 (f := .glo "plain_span") rfl), F⟩
  f_is_crossed := by
    obtain ⟨fd, F⟩ := c.def_ 5 (d := D_is_crossed) rfl
    exact ⟨_, fd, He.glo_ok X G (c.fact 24 (f := .glo "is_crossed") rfl), F⟩
  f_plain_of := by
    obtain ⟨fd, F⟩ := c.def_ 6 (d := D_plain_of) rfl
    exact ⟨_, fd, He.glo_ok X G (c.fact 25 (f := .glo "plain_of") rfl), F⟩
  f_plain_box := by
    obtain ⟨fd, F⟩ := c.def_ 7 (d := D_plain_box) rfl
    exact ⟨_, fd, He.glo_ok X G (c.fact 26 (f := .glo "plain_box") rfl), F⟩
  f_greater_of := by
    obtain ⟨fd, F⟩ := c.def_ 8 (d := D_greater_of) rfl
    exact ⟨_, fd, He.glo_ok X G (c.fact 27 (f := .glo "greater_of") rfl), F⟩
  f_lesser_of := by
    obtain ⟨fd, F⟩ := c.def_ 9 (d := D_lesser_of) rfl
    exact ⟨_, fd, He.glo_ok X G (c.fact 28 (f := .glo "lesser_of") rfl), F⟩
  f_common := by
    obtain ⟨fd, F⟩ := c.def_ 10 (d := D_common) rfl
    exact ⟨_, fd, He.glo_ok X G (c.fact 29 (f := .glo "common") rfl), F⟩
  f_lies_within := by
    obtain ⟨fd, F⟩ := c.def_ 11 (d := D_lies_within) rfl
    exact ⟨_, fd, He.glo_ok X G (c.fact 30 (f := .glo "lies_within") rfl), F⟩
  f_things_in := by
    obtain ⟨fd, F⟩ := c.def_ 12 (d := D_things_in) rfl
    exact ⟨_, fd, He.glo_ok X G (c.fact 31 (f := .glo "things_in") rfl), F⟩
  f_by_place := by
    obtain ⟨fd, F⟩ := c.def_ 13 (d := D_by_place) rfl
    exact ⟨_, fd, He.glo_ok X G (c.fact 32 (f := .glo "by_place") rfl), F⟩
  f_names_of := by
    obtain ⟨fd, F⟩ := c.def_ 14 (d := D_names_of) rfl
    exact ⟨_, fd, He.glo_ok X G (c.fact 33 (f := .glo "names_of") rfl), F⟩
  f_in_order := by
    obtain ⟨fd, F⟩ := c.def_ 15 (d := D_in_order) rfl
    exact ⟨_, fd, He.glo_ok X G (c.fact 34 (f := .glo "in_order") rfl), F⟩
  f_answer_of := by
    obtain ⟨fd, F⟩ := c.def_ 16 (d := D_answer_of) rfl
    exact ⟨_, fd, He.glo_ok X G (c.fact 35 (f := .glo "answer_of") rfl), F⟩
  f_answer := by
    obtain ⟨fd, F⟩ := c.def_ 17 (d := D_answer) rfl
    exact ⟨_, fd, He.glo_ok X G (c.fact 36 (f := .glo "answer") rfl), F⟩
  f_lies_out := by
    obtain ⟨fd, F⟩ := c.def_ 18 (d := D_lies_out) rfl
    exact ⟨_, fd, He.glo_ok X G (c.fact 37 (f := .glo "lies_out") rfl), F⟩
  f_tree_at := by
    obtain ⟨fd, F⟩ := c.def_ 19 (d := D_tree_at) rfl
    exact ⟨_, fd, He.glo_ok X G (c.fact 38 (f := .glo "tree_at") rfl), F⟩
  f_by_cover := by
    obtain ⟨fd, F⟩ := c.def_ 20 (d := D_by_cover) rfl
    exact ⟨_, fd, He.glo_ok X G (c.fact 39 (f := .glo "by_cover") rfl), F⟩
  f_is_count := by
    obtain ⟨fd, F⟩ := c.def_ 21 (d := D_is_count) rfl
    exact ⟨_, fd, He.glo_ok X G (c.fact 40 (f := .glo "is_count") rfl), F⟩
  f_is_path := by
    obtain ⟨fd, F⟩ := c.def_ 22 (d := D_is_path) rfl
    exact ⟨_, fd, He.glo_ok X G (c.fact 41 (f := .glo "is_path") rfl), F⟩
  f_there := by
    obtain ⟨fd, F⟩ := c.def_ 23 (d := D_there) rfl
    exact ⟨_, fd, He.glo_ok X G (c.fact 42 (f := .glo "there") rfl), F⟩
  f_is_out := by
    obtain ⟨fd, F⟩ := c.def_ 24 (d := D_is_out) rfl
    exact ⟨_, fd, He.glo_ok X G (c.fact 43 (f := .glo "is_out") rfl), F⟩
  f_is_in := by
    obtain ⟨fd, F⟩ := c.def_ 25 (d := D_is_in) rfl
    exact ⟨_, fd, He.glo_ok X G (c.fact 44 (f := .glo "is_in") rfl), F⟩
  f_has_each_once := by
    obtain ⟨fd, F⟩ := c.def_ 26 (d := D_has_each_once) rfl
    exact ⟨_, fd, He.glo_ok X G (c.fact 45 (f := .glo "has_each_once") rfl), F⟩
  f_shows_cover := by
    obtain ⟨fd, F⟩ := c.def_ 27 (d := D_shows_cover) rfl
    exact ⟨_, fd, He.glo_ok X G (c.fact 46 (f := .glo "shows_cover") rfl), F⟩
  f_steps_to := by
    obtain ⟨fd, F⟩ := c.def_ 28 (d := D_steps_to) rfl
    exact ⟨_, fd, He.glo_ok X G (c.fact 47 (f := .glo "steps_to") rfl), F⟩
  f_worths_of := by
    obtain ⟨fd, F⟩ := c.def_ 29 (d := D_worths_of) rfl
    exact ⟨_, fd, He.glo_ok X G (c.fact 48 (f := .glo "worths_of") rfl), F⟩
  f_key_by := by
    obtain ⟨fd, F⟩ := c.def_ 30 (d := D_key_by) rfl
    exact ⟨_, fd, He.glo_ok X G (c.fact 49 (f := .glo "key_by") rfl), F⟩
  f_is_name_of := by
    obtain ⟨fd, F⟩ := c.def_ 31 (d := D_is_name_of) rfl
    exact ⟨_, fd, He.glo_ok X G (c.fact 50 (f := .glo "is_name_of") rfl), F⟩
  f_keys_told := by
    obtain ⟨fd, F⟩ := c.def_ 32 (d := D_keys_told) rfl
    exact ⟨_, fd, He.glo_ok X G (c.fact 51 (f := .glo "keys_told") rfl), F⟩
  f_is_far := by
    obtain ⟨fd, F⟩ := c.def_ 33 (d := D_is_far) rfl
    exact ⟨_, fd, He.glo_ok X G (c.fact 52 (f := .glo "is_far") rfl), F⟩
  f_parts_show := by
    obtain ⟨fd, F⟩ := c.def_ 34 (d := D_parts_show) rfl
    exact ⟨_, fd, He.glo_ok X G (c.fact 53 (f := .glo "parts_show") rfl), F⟩
  f_shows_drawn := by
    obtain ⟨fd, F⟩ := c.def_ 35 (d := D_shows_drawn) rfl
    exact ⟨_, fd, He.glo_ok X G (c.fact 54 (f := .glo "shows_drawn") rfl), F⟩
  f__law_left := by
    obtain ⟨fd, F⟩ := c.def_ 36 (d := D__law_left) rfl
    exact ⟨_, fd, He.glo_ok X G (c.fact 55 (f := .glo "_law_left") rfl), F⟩
  f__law_pick := by
    obtain ⟨fd, F⟩ := c.def_ 37 (d := D__law_pick) rfl
    exact ⟨_, fd, He.glo_ok X G (c.fact 56 (f := .glo "_law_pick") rfl), F⟩
  f__law_house := by
    obtain ⟨fd, F⟩ := c.def_ 38 (d := D__law_house) rfl
    exact ⟨_, fd, He.glo_ok X G (c.fact 57 (f := .glo "_law_house") rfl), F⟩
  f__law_number := by
    obtain ⟨fd, F⟩ := c.def_ 39 (d := D__law_number) rfl
    exact ⟨_, fd, He.glo_ok X G (c.fact 58 (f := .glo "_law_number") rfl), F⟩
  f__law_box := by
    obtain ⟨fd, F⟩ := c.def_ 40 (d := D__law_box) rfl
    exact ⟨_, fd, He.glo_ok X G (c.fact 59 (f := .glo "_law_box") rfl), F⟩
  f__law_kind := by
    obtain ⟨fd, F⟩ := c.def_ 41 (d := D__law_kind) rfl
    exact ⟨_, fd, He.glo_ok X G (c.fact 60 (f := .glo "_law_kind") rfl), F⟩
  f__law_bounds := by
    obtain ⟨fd, F⟩ := c.def_ 42 (d := D__law_bounds) rfl
    exact ⟨_, fd, He.glo_ok X G (c.fact 61 (f := .glo "_law_bounds") rfl), F⟩
  f__law_grown := by
    obtain ⟨fd, F⟩ := c.def_ 43 (d := D__law_grown) rfl
    exact ⟨_, fd, He.glo_ok X G (c.fact 62 (f := .glo "_law_grown") rfl), F⟩
  f__law_tree := by
    obtain ⟨fd, F⟩ := c.def_ 44 (d := D__law_tree) rfl
    exact ⟨_, fd, He.glo_ok X G (c.fact 63 (f := .glo "_law_tree") rfl), F⟩
  f__law_plain := by
    obtain ⟨fd, F⟩ := c.def_ 45 (d := D__law_plain) rfl
    exact ⟨_, fd, He.glo_ok X G (c.fact 64 (f := .glo "_law_plain") rfl), F⟩
  f__law_beyond := by
    obtain ⟨fd, F⟩ := c.def_ 46 (d := D__law_beyond) rfl
    exact ⟨_, fd, He.glo_ok X G (c.fact 65 (f := .glo "_law_beyond") rfl), F⟩
  f__law_inside := by
    obtain ⟨fd, F⟩ := c.def_ 47 (d := D__law_inside) rfl
    exact ⟨_, fd, He.glo_ok X G (c.fact 66 (f := .glo "_law_inside") rfl), F⟩
  f__law_fits := by
    obtain ⟨fd, F⟩ := c.def_ 48 (d := D__law_fits) rfl
    exact ⟨_, fd, He.glo_ok X G (c.fact 67 (f := .glo "_law_fits") rfl), F⟩
  f__law_steps := by
    obtain ⟨fd, F⟩ := c.def_ 49 (d := D__law_steps) rfl
    exact ⟨_, fd, He.glo_ok X G (c.fact 68 (f := .glo "_law_steps") rfl), F⟩
  f__law_key := by
    obtain ⟨fd, F⟩ := c.def_ 50 (d := D__law_key) rfl
    exact ⟨_, fd, He.glo_ok X G (c.fact 69 (f := .glo "_law_key") rfl), F⟩
  f__law_ranked := by
    obtain ⟨fd, F⟩ := c.def_ 51 (d := D__law_ranked) rfl
    exact ⟨_, fd, He.glo_ok X G (c.fact 70 (f := .glo "_law_ranked") rfl), F⟩
  f__law_at := by
    obtain ⟨fd, F⟩ := c.def_ 52 (d := D__law_at) rfl
    exact ⟨_, fd, He.glo_ok X G (c.fact 71 (f := .glo "_law_at") rfl), F⟩
  f__law_whole := by
    obtain ⟨fd, F⟩ := c.def_ 53 (d := D__law_whole) rfl
    exact ⟨_, fd, He.glo_ok X G (c.fact 72 (f := .glo "_law_whole") rfl), F⟩
  f__law_there := by
    obtain ⟨fd, F⟩ := c.def_ 54 (d := D__law_there) rfl
    exact ⟨_, fd, He.glo_ok X G (c.fact 73 (f := .glo "_law_there") rfl), F⟩
  f__law_out_right := by
    obtain ⟨fd, F⟩ := c.def_ 55 (d := D__law_out_right) rfl
    exact ⟨_, fd, He.glo_ok X G (c.fact 74 (f := .glo "_law_out_right") rfl), F⟩
  f__law_is_cover := by
    obtain ⟨fd, F⟩ := c.def_ 56 (d := D__law_is_cover) rfl
    exact ⟨_, fd, He.glo_ok X G (c.fact 75 (f := .glo "_law_is_cover") rfl), F⟩
  f__law_thing_key := by
    obtain ⟨fd, F⟩ := c.def_ 57 (d := D__law_thing_key) rfl
    exact ⟨_, fd, He.glo_ok X G (c.fact 76 (f := .glo "_law_thing_key") rfl), F⟩
  f__law_show := by
    obtain ⟨fd, F⟩ := c.def_ 58 (d := D__law_show) rfl
    exact ⟨_, fd, He.glo_ok X G (c.fact 77 (f := .glo "_law_show") rfl), F⟩
  f__law_is_paper := by
    obtain ⟨fd, F⟩ := c.def_ 59 (d := D__law_is_paper) rfl
    exact ⟨_, fd, He.glo_ok X G (c.fact 78 (f := .glo "_law_is_paper") rfl), F⟩
  f__law_parted := by
    obtain ⟨fd, F⟩ := c.def_ 60 (d := D__law_parted) rfl
    exact ⟨_, fd, He.glo_ok X G (c.fact 79 (f := .glo "_law_parted") rfl), F⟩
  f__law_cover_right := by
    obtain ⟨fd, F⟩ := c.def_ 61 (d := D__law_cover_right) rfl
    exact ⟨_, fd, He.glo_ok X G (c.fact 80 (f := .glo "_law_cover_right") rfl), F⟩
  f__law_drawn_right := by
    obtain ⟨fd, F⟩ := c.def_ 62 (d := D__law_drawn_right) rfl
    exact ⟨_, fd, He.glo_ok X G (c.fact 81 (f := .glo "_law_drawn_right") rfl), F⟩
  f_law := by
    obtain ⟨fd, F⟩ := c.def_ 63 (d := D_law) rfl
    exact ⟨_, fd, He.glo_ok X G (c.fact 82 (f := .glo "law") rfl), F⟩
theorem bis {K : PySem.W.Frag} {h : Heap} {mg : Str → Option Value} (X : K.In h) (G : h.Ns mainGlobals mg) (c : He.SaysD fa fn K) : Bi mg where
  len := He.free_ok X G (c.fact 0 (f := .free "len") rfl)
  zip := He.free_ok X G (c.fact 1 (f := .free "zip") rfl)
  all := He.free_ok X G (c.fact 2 (f := .free "all") rfl)
  any := He.free_ok X G (c.fact 3 (f := .free "any") rfl)
  tuple := He.free_ok X G (c.fact 4 (f := .free "tuple") rfl)
  list := He.free_ok X G (c.fact 5 (f := .free "list") rfl)
  dict := He.free_ok X G (c.fact 6 (f := .free "dict") rfl)
  sorted := He.free_ok X G (c.fact 7 (f := .free "sorted") rfl)
  sum := He.free_ok X G (c.fact 8 (f := .free "sum") rfl)
  min := He.free_ok X G (c.fact 9 (f := .free "min") rfl)
  max := He.free_ok X G (c.fact 10 (f := .free "max") rfl)
  abs := He.free_ok X G (c.fact 11 (f := .free "abs") rfl)
  int := He.free_ok X G (c.fact 12 (f := .free "int") rfl)
  isinstance := He.free_ok X G (c.fact 13 (f := .free "isinstance") rfl)
  range := He.free_ok X G (c.fact 14 (f := .free "range") rfl)
  bool := He.free_ok X G (c.fact 15 (f := .free "bool") rfl)
  str := He.free_ok X G (c.fact 16 (f := .free "str") rfl)
theorem bgs {K : PySem.W.Frag} {h : Heap} {mg : Str → Option Value} (X : K.In h) (G : h.Ns mainGlobals mg) (c : He.SaysD fa fn K) (e : ex K = true) : Bg K mg := by
  unfold ex at e
  rw [Bool.and_eq_true] at e
  exact ⟨_, _, He.glo_ok X G (c.fact 17 (f := .glo "EMPTY_boxes") rfl), He.glo_ok X G (c.fact 18 (f := .glo "EMPTY_covers") rfl), fun H => He.tupB_ok e.1 H, fun H => He.tupB_ok e.2 H⟩
theorem srcC {K : PySem.W.Frag} {h : Heap} {mg : Str → Option Value} (X : K.In h) (G : h.Ns mainGlobals mg) (c : He.SaysD fa fn K) : SrcC K mg "_law_grown" s__law_grown (He.codeOf K ("_law_grown", none)) := by
  obtain ⟨fd, F⟩ := c.def_ 43 (d := D__law_grown) rfl
  refine ⟨_, fd, He.glo_ok X G (c.fact 62 (f := .glo "_law_grown") rfl), F, ?_⟩
  obtain ⟨oc, od, dV, kV, doc, pm, an, cdv, ct, osl, rfl, lk, hcd, _, _⟩ := F.ex
  obtain ⟨c', hc'⟩ := He.codeIn_ref hcd
  subst hc'
  show Value.ref c' = _
  rw [He.codeOf_eq (p := ("_law_grown", none)) lk rfl]
end Bx
open PySem PySem.W PySem.Calls PyProof.Rows
theorem PySem.Challenge.cw_boxlayers_k52_whole_what_is_taken_tells_holds : PySem.Challenge.rw_boxlayers_k52_whole_what_is_taken_tells.Holds := by
  w_on; o_law
  refine HandSHeadRun.head_any (r := OpenLaw.row PySem.Challenge.rw_boxlayers_k52_whole_what_is_taken_tells) (q := view (OpenLaw.row PySem.Challenge.rw_boxlayers_k52_whole_what_is_taken_tells).prog [80]) (H := Bx.hk) (ob := Bx.ob) (M := 4000) (loose := Bx.loose) (d := HandSHeadRun.topDef (OpenLaw.row PySem.Challenge.rw_boxlayers_k52_whole_what_is_taken_tells).prog 80) (kwd := []) Bx.ob_eq
    (by kernel_rfl) (fun s => by kernel_rfl) Bx.run (by kernel_rfl) (by kernel_rfl) (by kernel_rfl) (by rfl) (by first | assumption | decide +kernel) (by decide +kernel) ⟨rfl, rfl, rfl, rfl, rfl, by decide +kernel⟩ ?hw ?hc
  case hw => w_witness2
  case hc =>
    refine LamX.walk_ofTsE (l := PySem.Challenge.rw_boxlayers_k52_whole_what_is_taken_tells) (n := 63) (k := 35) (x := "_law_script") (CX := fun _ => L2.CX0) rfl (by decide) (by kernel_rfl) ⟨rfl, by decide, by decide⟩ ?F (fun _ _ _ _ _ z => z)
    intro w mg fa h Y G hmg0
    obtain ⟨K, KX, c⟩ := Y
    have hmg : mg ("law" : PySem.Str) = some (.ref fa) := by
      have e : (HandSHeadRun.topDef (OpenLaw.row PySem.Challenge.rw_boxlayers_k52_whole_what_is_taken_tells).prog 80).name = ("law" : PySem.Str) := by kernel_rfl
      rw [← e]
      exact hmg0
    have cd := c.t.d
    obtain ⟨fd, F⟩ := cd.def_ 63 (d := Bx.D_law) rfl
    have e := hmg.symm.trans (He.glo_ok KX G (cd.fact 82 (f := .glo "law") rfl))
    cases e
    have b := L2.FunD.bindsA (ps := ["_law_script"]) F fun _ _ _ _ _ _ us hl => match us, hl with | [_], _ => rfl
    have m0 : (("_law_grown", none) : He.Defn) ∈ Bx.tf := List.mem_singleton.mpr rfl
    refine ⟨K, KX, fd, [(He.codeOf K ("_law_grown", none), He.tabOf K (He.codeOf K ("_law_grown", none)))], Bx.spLaw K [(He.tabOf K (He.codeOf K ("_law_grown", none)), Bx.qL)], ?_, ?_, ?_, fun s v => b s [v] rfl, ?_, ?_⟩
    · intro p hp
      cases List.mem_singleton.mp hp
      exact c.empty _ m0
    · intro p hp
      cases List.mem_singleton.mp hp
      exact c.out _ m0
    · intro p hp
      cases List.mem_singleton.mp hp
      exact PySem.W.codeHd_of_K KX (c.hd _ m0)
    · intro H a ns _ _ hT hS
      refine ⟨a, ns, rfl, hS, fun p hp => ?_, fun _ => rfl⟩
      cases List.mem_singleton.mp hp
      exact LamX.TabS.nil (hT _ (List.mem_singleton.mpr rfl))
    · intro base hK hN hT
      exact Bx.all_ok (Bx.srcs KX G cd) (Bx.srcC KX G cd) (Bx.bis KX G cd) (Bx.bgs KX G cd c.more) (hT _ (List.mem_singleton.mpr rfl)) (He.glo_ok KX G (cd.fact 82 (f := .glo "law") rfl)) F
