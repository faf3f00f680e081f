import PyProof.Rows.All
import Wide.All
import OpenK.AllK
import Wide.FinOn
import HandS.ForMost
import HandS.TupAny
import KE.KDictKeyed
import KE.KeyNested
import PyProof.DictTruth
import KE.KDictCopyH
import HandS.ExcInit
import HandS.Flow
import HandS.Wide
import HandS.Style
import HandS.IsInst
import KE.DataEq
import PyProof.Rows.RuleB_pow
import HandS.Strs
import HandS.Iter
import KE.KDictWalk
import HandS.Comp
import HandS.Property
import HandS.Ends
import HandS.RaiseMore
import HandS.Words
import HandS.DictComp
import HandS.SortInts
import HandS.Zip
import KE.GoesMore
import KE.KDictItemsList
import HandS.ListItems
import PyProof.EqAt
import PyProof.NeKinds
import KE.GoesZip
import KE.GoesEnum
import PyProof.InstNe
import HandS.SetFor
import HandS.More
import HandS.Conv
import PyProof.RulesDelMore
import HandS.Call
import HandS.Exc
import KE.KExcSuper
import HandS.ExcField
import KE.KExcIs
import HandS.StrMore
import PyProof.StrOps2
import HandS.Defaults
import HandS.Head0
import HandS.Head1
import HandS.Head2
import HandS.HeadHook1
import HandS.HeadHook2
import HandS.HeadHook3
import HandS.HeadHook4
import PySem.Challenge.RW_tiedfirsts_k01_errors_made
set_option Elab.async false
set_option linter.all false
set_option maxRecDepth 100000
namespace Tf
abbrev Tx := List Nat
inductive W where
 | non
 | bl (b : Bool)
 | int (i : Int)
 | str (x : Tx)
 | tup (ws : List W)
 | lst (ws : List W)
 | dct (ks vs : List W)
 | ins (C : Nat) (ns : List Nat) (vs : List W)
 | exc (C : Nat) (v : W)
 | scr (is : List Int)
 | rep (w : W)
 deriving Inhabited
inductive R where
 | w (w : W)
 | loc (n : Nat)
 deriving Inhabited
inductive O where
 | lst (rs : List R)
 | dct (ks : List W) (vs : List R)
 | ins (C : Nat) (ns : List Nat) (vs : List R)
 | tup (rs : List R)
 | exc (C : Nat) (r : R)
 | dead
 deriving Inhabited
abbrev Hh := List O
abbrev Env := List (Option R)
inductive Res (α : Type) where
 | ok (a : α) (h : Hh)
 | ex (C : Nat) (v : W)
 | no
@[inline] def Res.bind {α β : Type} (x : Res α) (f : α -> Hh -> Res β) : Res β := match x with
 | .ok a h => f a h
 | .ex C v => .ex C v
 | .no => .no
def b2i (b : Bool) : Int := if b then 1 else 0
mutual
def weq : W -> W -> Bool
 | .non, .non => true
 | .bl a, .bl b => a == b
 | .bl a, .int j => decide (b2i a = j)
 | .int i, .bl b => decide (i = b2i b)
 | .int i, .int j => decide (i = j)
 | .str x, .str y => decide (x = y)
 | .tup xs, .tup ys => weqs xs ys
 | .lst xs, .lst ys => weqs xs ys
 | _, _ => false
def weqs : List W -> List W -> Bool
 | [], [] => true
 | x :: xs, y :: ys => weq x y && weqs xs ys
 | _, _ => false
end
mutual
def wid : W -> W -> Bool
 | .non, .non => true
 | .bl a, .bl b => a == b
 | .int i, .int j => decide (i = j)
 | .str x, .str y => decide (x = y)
 | .tup xs, .tup ys => wids xs ys
 | .lst xs, .lst ys => wids xs ys
 | _, _ => false
def wids : List W -> List W -> Bool
 | [], [] => true
 | x :: xs, y :: ys => wid x y && wids xs ys
 | _, _ => false
end
def keyOk : Nat -> W -> Bool
 | _, .non => true
 | _, .bl _ => true
 | _, .int _ => true
 | _, .str _ => true
 | n + 1, .tup ws => ws.all (keyOk n)
 | _, _ => false
mutual
def depthOk : Nat -> W -> Bool
 | _, .non => true
 | _, .bl _ => true
 | _, .int _ => true
 | _, .str _ => true
 | n + 1, .tup ws => depthsOk n ws
 | n + 1, .lst ws => depthsOk n ws
 | _, _ => false
def depthsOk : Nat -> List W -> Bool
 | _, [] => true
 | n, x :: xs => depthOk n x && depthsOk n xs
end
mutual
def reprLen : W -> Nat
 | .non => 4
 | .bl _ => 5
 | .int i => i.natAbs.log2 + 3
 | .str x => 10 * x.length + 2
 | .tup ws => reprLens ws + 3
 | .lst ws => reprLens ws + 3
 | .dct _ _ => 2
 | _ => 0
def reprLens : List W -> Nat
 | [] => 0
 | w :: ws => reprLen w + 2 + reprLens ws
end
mutual
def showOk : W -> Bool
 | .non => true
 | .bl _ => true
 | .int i => Nat.blt i.natAbs.log2 1900
 | .str x => x.all fun c => Nat.ble 32 c && Nat.blt c 127
 | .tup ws => showsOk ws
 | .lst ws => showsOk ws
 | _ => false
def showsOk : List W -> Bool
 | [] => true
 | w :: ws => showOk w && showsOk ws
end
def reprOk (w : W) : Bool := depthOk 40 w && showOk w && Nat.blt (reprLen w) 1000000
mutual
def showE : Nat -> W -> Bool
 | _, .non => true
 | _, .bl _ => true
 | _, .int i => Nat.blt i.natAbs.log2 1900
 | _, .str x => x.all fun c => Nat.ble 32 c && Nat.blt c 127
 | n + 1, .tup ws => showEs n ws
 | n + 1, .lst ws => showEs n ws
 | _ + 1, .dct ks vs => ks.isEmpty && vs.isEmpty
 | _, _ => false
def showEs : Nat -> List W -> Bool
 | _, [] => true
 | n, w :: ws => showE n w && showEs n ws
end
def reprOkE (w : W) : Bool := showE 40 w && Nat.blt (reprLen w) 1000000
def sizeMax : Nat := 1000000
def dfind {α : Type} : List W -> List α -> W -> Option α
 | k :: ks, v :: vs, x => if weq k x then some v else dfind ks vs x
 | _, _, _ => none
def dhas : List W -> W -> Bool
 | [], _ => false
 | k :: ks, x => weq k x || dhas ks x
def dput {α : Type} : List W -> List α -> W -> α -> List W × List α
 | k :: ks, v :: vs, x, y => if weq k x then (k :: ks, y :: vs) else
   let r := dput ks vs x y
   (k :: r.1, v :: r.2)
 | _, _, x, y => ([x], [y])
def fzs (f : R -> Option W) : List R -> Option (List W)
 | [] => some []
 | r :: rs => match f r, fzs f rs with
  | some w, some ws => some (w :: ws)
  | _, _ => none
def fz (h : Hh) (n0 : Nat) : Nat -> R -> Option W
 | _, .w w => some w
 | 0, .loc _ => none
 | k + 1, .loc l => if l < n0 then none else match h[l]? with
  | some (.lst rs) => (fzs (fz h n0 k) rs).map .lst
  | some (.dct ks vs) => (fzs (fz h n0 k) vs).map (.dct ks)
  | some (.ins C ns vs) => (fzs (fz h n0 k) vs).map (.ins C ns)
  | some (.tup rs) => (fzs (fz h n0 k) rs).map .tup
  | _ => none
def allW : List R -> Option (List W)
 | [] => some []
 | .w w :: rs => (allW rs).map (w :: ·)
 | .loc _ :: _ => none
def flatO : O -> Bool
 | .lst rs => (allW rs).isSome
 | .dct _ vs => (allW vs).isSome
 | .ins _ _ vs => (allW vs).isSome
 | .tup rs => (allW rs).isSome
 | .exc _ _ => false
 | .dead => false
inductive Ty where
 | int | bool | str | list | tuple | dict
 | own (C : Nat)
 deriving DecidableEq
inductive Op where
 | add | sub | mul | fdiv | mod | pow | neg | not | notV
 | eq | ne | lt | le | gt | ge
 | isN | notN | isT | notT | isF | notF
 | inn | nin
 | idx
 | slice (lo hi : Bool)
 | sliceBy
 | len | abs | int | str | list | tuple | sorted | sum | max1 | min1 | max2 | min2
 | lenSet | eqSet | neSet | repr | insG | eqE | neE
 | isinst (t : List Ty)
 | tup | lst | dct0 | dct1
 | fld (f : Nat)
 | index | listValues | listItems | get2
 | append | extend | insert | pop | remove | update | setdefault | reverse
 | addO | addI | neSetI | listRange | dct3 | pick2 | catO | unpL | mulS
 deriving DecidableEq
inductive Md where
 | pu | kp | mk (C : Nat) | kd | hp | kq | xr
inductive T where
 | n (i : Nat)
 | t (ts : List T)
inductive IK where
 | seq | range | zip | enum | values | items | zip3
inductive E where
 | c (w : W)
 | v (i : Nat)
 | op (o : Op) (es : List E)
 | mut (o : Op) (i : Nat) (es : List E)
 | mutE (o : Op) (t : E) (es : List E)
 | and (a b : E)
 | or (a b : E)
 | orV (a b : E)
 | chain (o p : Op) (a b c : E)
 | ite (c a b : E)
 | call (m : Md) (f : Nat) (es : List E)
 | attr (f : Nat) (e : E)
 | meth (f : Nat) (o : E) (es : List E)
 | methK (f : Nat) (o : E) (es : List E)
 | lc (t : T) (k : IK) (its : List E) (cs : List E) (e : E)
 | lc2 (t : T) (k : IK) (its : List E) (cs : List E) (t1 : T) (k1 : IK) (its1 : List E) (cs1 : List E) (e : E)
 | dc (t : T) (k : IK) (its : List E) (cs : List E) (ke ve : E)
 | dc2 (t : T) (k : IK) (its : List E) (cs : List E) (t1 : T) (k1 : IK) (its1 : List E) (cs1 : List E) (ke ve : E)
 | mkX (C : Nat) (e : E)
 | excV (e : E)
 | isX (cs : List Nat) (e : E)
 | repL (e n : E)
 | reprEq (b : Bool) (x y : E)
 | frE (e : E)
 | tupO (es : List E)
 | lstO (es : List E)
 | lcO (t : T) (it : E) (cs : List E) (e : E)
 | slO (b : Bool) (e i : E)
 | tupL (e : E)
 | addT (a b : E)
 | snapV (e : E)
 | snapO (e : E)
 | attrD (f : Nat) (e : E)
 | lcN (t : T) (k : IK) (its : List E) (cs : List E) (e : E)
 | lcX (t : T) (it : E) (cs : List E) (e : E)
 | lc2X (t : T) (k : IK) (its : List E) (cs : List E) (t1 : T) (it1 : E) (cs1 : List E) (e : E)
 | al (e : E)
 | snap (e : E)
inductive S where
 | asg (t : T) (e : E)
 | par (is : List Nat) (es : List E)
 | sub (o i e : E)
 | fld (o : E) (f : Nat) (e : E)
 | aug (i : Nat) (o : Op) (e : E)
 | exp (e : E)
 | ret (e : E)
 | ifs (c : E) (a b : List S)
 | whl (c : E) (b : List S)
 | for (t : T) (k : IK) (its : List E) (b : List S)
 | raise (C : Nat) (e : E)
 | tryX (b : List S) (i : Nat)
 | brk
 | pass
 | freeze (i : Nat)
 | unf (o : E) (fs : List Nat) (e : E)
 | forO (t : T) (it : E) (b : List S)
 | parO (is : List Nat) (e : E)
 | forZ (is : List Nat) (es : List E) (b : List S)
inductive Fl where
 | nx | bk | rt (r : R)
def atI {α : Type} (xs : List α) (i : Int) : Option α :=
 if 0 <= i then xs[i.toNat]? else if -(xs.length : Int) <= i then xs[(i + xs.length).toNat]? else none
def cutAt (n : Nat) (i : Int) : Nat := if 0 <= i then min i.toNat n else (i + n).toNat
def cut {α : Type} (xs : List α) (lo hi : Nat) : List α := (xs.drop lo).take (hi - lo)
def insSort (le : α -> α -> Bool) (x : α) : List α -> List α
 | [] => [x]
 | y :: ys => if le x y then x :: y :: ys else y :: insSort le x ys
def sortBy (le : α -> α -> Bool) : List α -> List α
 | [] => []
 | x :: xs => insSort le x (sortBy le xs)
def txLe : Tx -> Tx -> Bool
 | [], _ => true
 | _ :: _, [] => false
 | x :: xs, y :: ys => if x < y then true else if x = y then txLe xs ys else false
def intsOf : List W -> Option (List Int)
 | [] => some []
 | .int i :: r => (intsOf r).map (i :: ·)
 | _ => none
def strsOf : List W -> Option (List Tx)
 | [] => some []
 | .str x :: r => (strsOf r).map (x :: ·)
 | _ => none
def sorts (ws : List W) : Option (List W) := match intsOf ws with
 | some is => some ((sortBy (fun a b => decide (a <= b)) is).map .int)
 | none => match strsOf ws with
  | some xs => if xs.length < 64 then some ((sortBy txLe xs).map .str) else none
  | none => none
def maxI : Int -> List Int -> Int
 | m, [] => m
 | m, i :: r => maxI (if i > m then i else m) r
def minI : Int -> List Int -> Int
 | m, [] => m
 | m, i :: r => minI (if i < m then i else m) r
def bitsOk (i j : Int) : Bool := Nat.blt (i.natAbs.log2 + j.natAbs.log2) 1000000
def addW : W -> W -> Option W
 | .int i, .int j => some (.int (i + j))
 | .str x, .str y => if x.length + y.length <= sizeMax then some (.str (x ++ y)) else none
 | .tup x, .tup y => if x.length + y.length <= sizeMax then some (.tup (x ++ y)) else none
 | .lst x, .lst y => if x.length + y.length <= sizeMax then some (.lst (x ++ y)) else none
 | _, _ => none
def hasW (xs : List W) (x : W) : Bool := xs.any fun y => weq y x
def isInst : Ty -> W -> Bool
 | .int, .int _ => true
 | .int, .bl _ => true
 | .bool, .bl _ => true
 | .str, .str _ => true
 | .list, .lst _ => true
 | .tuple, .tup _ => true
 | .dict, .dct _ _ => true
 | .own C, .ins D _ _ => C == D
 | .own C, .exc D _ => C == D
 | _, _ => false
def instO : Ty -> O -> Bool
 | .list, .lst _ => true
 | .dict, .dct _ _ => true
 | .tuple, .tup _ => true
 | .own C, .ins D _ _ => C == D
 | _, _ => false
def fldAt : List Nat -> List α -> Nat -> Option α
 | n :: ns, v :: vs, f => if n = f then some v else fldAt ns vs f
 | _, _, _ => none
def fldPut : List Nat -> List α -> Nat -> α -> List Nat × List α
 | n :: ns, v :: vs, f, y => if n = f then (n :: ns, y :: vs) else
   let r := fldPut ns vs f y
   (n :: r.1, v :: r.2)
 | _, _, f, y => ([f], [y])
def op_add : List W -> Option W
 | [a, b] => addW a b
 | _ => none
def op_sub : List W -> Option W
 | [.int i, .int j] => some (.int (i - j))
 | _ => none
def op_mul : List W -> Option W
 | [.int i, .int j] => if bitsOk i j then some (.int (i * j)) else none
 | _ => none
def op_fdiv : List W -> Option W
 | [.int i, .int j] => if decide (0 < j) && Nat.blt j.natAbs.log2 9000 then some (.int (i / j)) else none
 | _ => none
def op_mod : List W -> Option W
 | [.int i, .int j] => if 0 < j then some (.int (i % j)) else none
 | _ => none
def op_pow : List W -> Option W
 | [.int i, .int j] => if decide (0 <= j ∧ j <= 1000) && Nat.blt i.natAbs.log2 10000 then some (.int (i ^ j.toNat)) else none
 | _ => none
def op_neg : List W -> Option W
 | [.int i] => some (.int (-i))
 | _ => none
def op_not : List W -> Option W
 | [.bl b] => some (.bl (!b))
 | _ => none
def op_notV : List W -> Option W
 | [.bl b] => some (.bl (!b))
 | [.non] => some (.bl true)
 | _ => none
def op_eq : List W -> Option W
 | [.rep a, .rep b] => if wid a b then some (.bl true) else none
 | [a, b] => if depthOk 40 a && depthOk 40 b then some (.bl (weq a b)) else none
 | _ => none
def op_ne : List W -> Option W
 | [.rep a, .rep b] => if wid a b then some (.bl false) else none
 | [a, b] => if depthOk 40 a && depthOk 40 b then some (.bl (!weq a b)) else none
 | _ => none
def op_lt : List W -> Option W
 | [.int i, .int j] => some (.bl (decide (i < j)))
 | _ => none
def op_le : List W -> Option W
 | [.int i, .int j] => some (.bl (decide (i <= j)))
 | _ => none
def op_gt : List W -> Option W
 | [.int i, .int j] => some (.bl (decide (j < i)))
 | _ => none
def op_ge : List W -> Option W
 | [.int i, .int j] => some (.bl (decide (j <= i)))
 | _ => none
def op_isN : List W -> Option W
 | [a] => some (.bl (match a with | .non => true | _ => false))
 | _ => none
def op_notN : List W -> Option W
 | [a] => some (.bl (match a with | .non => false | _ => true))
 | _ => none
def op_isT : List W -> Option W
 | [.bl b] => some (.bl b)
 | [.non] => some (.bl false)
 | _ => none
def op_notT : List W -> Option W
 | [.bl b] => some (.bl (!b))
 | [.non] => some (.bl true)
 | _ => none
def op_isF : List W -> Option W
 | [.bl b] => some (.bl (!b))
 | [.non] => some (.bl false)
 | _ => none
def op_notF : List W -> Option W
 | [.bl b] => some (.bl b)
 | [.non] => some (.bl true)
 | _ => none
def op_inn : List W -> Option W
 | [x, .tup ws] => if depthOk 40 x && depthsOk 40 ws then some (.bl (hasW ws x)) else none
 | [x, .lst ws] => if depthOk 40 x && depthsOk 40 ws then some (.bl (hasW ws x)) else none
 | [.str [c], .str x] => some (.bl (x.contains c))
 | [x, .dct ks _] => if keyOk 8 x then some (.bl (dhas ks x)) else none
 | _ => none
def op_nin : List W -> Option W
 | [x, .tup ws] => if depthOk 40 x && depthsOk 40 ws then some (.bl (!hasW ws x)) else none
 | [x, .lst ws] => if depthOk 40 x && depthsOk 40 ws then some (.bl (!hasW ws x)) else none
 | [.str [c], .str x] => some (.bl (!x.contains c))
 | [x, .dct ks _] => if keyOk 8 x then some (.bl (!dhas ks x)) else none
 | _ => none
def op_idx : List W -> Option W
 | [.scr is, .int i] => (atI is i).map .int
 | [.tup ws, .int i] => atI ws i
 | [.lst ws, .int i] => atI ws i
 | [.str x, .int i] => if Nat.ble x.length sizeMax then (atI x i).map fun c => .str [c] else none
 | [.dct ks vs, x] => if keyOk 8 x then dfind ks vs x else none
 | _ => none
def op_sliceTT : List W -> Option W
 | [.tup ws, .int i, .int j] => some (.tup (cut ws (cutAt ws.length i) (cutAt ws.length j)))
 | [.lst ws, .int i, .int j] => some (.lst (cut ws (cutAt ws.length i) (cutAt ws.length j)))
 | _ => none
def op_sliceTF : List W -> Option W
 | [.tup ws, .int i] => some (.tup (cut ws (cutAt ws.length i) ws.length))
 | [.lst ws, .int i] => some (.lst (cut ws (cutAt ws.length i) ws.length))
 | _ => none
def op_sliceFT : List W -> Option W
 | [.tup ws, .int j] => some (.tup (cut ws 0 (cutAt ws.length j)))
 | [.lst ws, .int j] => some (.lst (cut ws 0 (cutAt ws.length j)))
 | _ => none
def op_sliceBy : List W -> Option W
 | [.lst ws, .int i] => if i = 1 then some (.lst ws) else if i = -1 then some (.lst ws.reverse) else none
 | _ => none
def op_len : List W -> Option W
 | [.scr is] => some (.int is.length)
 | [.str x] => if Nat.ble x.length sizeMax then some (.int x.length) else none
 | [.tup ws] => some (.int ws.length)
 | [.lst ws] => some (.int ws.length)
 | [.dct ks _] => some (.int ks.length)
 | _ => none
def op_abs : List W -> Option W
 | [.int i] => some (.int (if i < 0 then -i else i))
 | _ => none
def op_int : List W -> Option W
 | [.int i] => some (.int i)
 | [.bl b] => some (.int (b2i b))
 | _ => none
def op_str : List W -> Option W
 | [.str x] => some (.str x)
 | _ => none
def op_list : List W -> Option W
 | [.lst ws] => some (.lst ws)
 | [.tup ws] => some (.lst ws)
 | [.dct ks _] => some (.lst ks)
 | _ => none
def op_tuple : List W -> Option W
 | [.lst ws] => some (.tup ws)
 | [.tup ws] => some (.tup ws)
 | _ => none
def op_unpL : List W -> Option W
 | [.lst ws] => some (.tup ws)
 | _ => none
def op_mulS : List W -> Option W
 | [.str x, .int j] => if 0 <= j ∧ j < 1000 ∧ x.length < 1000 then some (.str (List.replicate j.toNat x).flatten) else none
 | _ => none
def op_sorted : List W -> Option W
 | [.lst ws] => (sorts ws).map .lst
 | _ => none
def op_sum : List W -> Option W
 | [.lst ws] => (intsOf ws).map fun is => .int is.sum
 | _ => none
def op_max1 : List W -> Option W
 | [.lst ws] => match intsOf ws with
  | some (i :: is) => some (.int (maxI i is))
  | _ => none
 | _ => none
def op_min1 : List W -> Option W
 | [.lst ws] => match intsOf ws with
  | some (i :: is) => some (.int (minI i is))
  | _ => none
 | _ => none
def op_max2 : List W -> Option W
 | [.int i, .int j] => some (.int (if j > i then j else i))
 | _ => none
def op_min2 : List W -> Option W
 | [.int i, .int j] => some (.int (if j < i then j else i))
 | _ => none
def diffT : List Tx -> List Tx -> List Tx
 | acc, [] => acc
 | acc, x :: xs => diffT (if x ∈ acc then acc else acc ++ [x]) xs
def op_lenSet : List W -> Option W
 | [.lst ws] => match strsOf ws with
  | some ys => if ys.length < 4000 then some (.int (diffT [] ys).length) else none
  | none => none
 | _ => none
def op_repr : List W -> Option W
 | [.bl b] => some (.rep (.bl b))
 | [.lst ws] => if reprOk (.lst ws) then some (.rep (.lst ws)) else none
 | [.tup ws] => if reprOk (.tup ws) then some (.rep (.tup ws)) else none
 | [.non] => some (.rep .non)
 | _ => none
def op_insG : List W -> Option W
 | [.str x, .tup ws] => match strsOf ws with
  | some ys => some (.bl (ys.any fun y => decide (y = x)))
  | none => none
 | _ => none
def op_eqE : List W -> Option W
 | [.lst ws] => some (.bl ws.isEmpty)
 | _ => none
def op_neE : List W -> Option W
 | [.lst ws] => some (.bl (!ws.isEmpty))
 | _ => none
def op_isinst (ts : List Ty) : List W -> Option W
 | [.exc _ _] => none
 | [.scr _] => none
 | [.rep _] => none
 | [a] => some (.bl (ts.any fun t => isInst t a))
 | _ => none
def op_tup : List W -> Option W
 | ws => if ws.length <= sizeMax then some (.tup ws) else none
def op_lst : List W -> Option W
 | ws => if ws.length <= sizeMax then some (.lst ws) else none
def op_dct0 : List W -> Option W
 | [] => some (.dct [] [])
 | _ => none
def op_dct1 : List W -> Option W
 | [k, v] => if keyOk 8 k then some (.dct [k] [v]) else none
 | _ => none
def op_fld (f : Nat) : List W -> Option W
 | [.ins _ ns vs] => fldAt ns vs f
 | _ => none
def txAt : List Tx -> Tx -> Option Nat
 | [], _ => none
 | y :: ys, x => if y = x then some 0 else (txAt ys x).map (· + 1)
def op_index : List W -> Option W
 | [.tup ws, .str x] => match strsOf ws with
  | some ys => (txAt ys x).map fun n => .int n
  | none => none
 | [.lst ws, .str x] => match strsOf ws with
  | some ys => (txAt ys x).map fun n => .int n
  | none => none
 | _ => none
def op_listValues : List W -> Option W
 | [.dct ks vs] => if vs.length = ks.length then some (.lst vs) else none
 | _ => none
def op_listItems : List W -> Option W
 | [.dct ks vs] => some (.lst ((ks.zip vs).map fun p => .tup [p.1, p.2]))
 | _ => none
def op_get2 : List W -> Option W
 | [.dct ks vs, x, d] => if keyOk 8 x then some ((dfind ks vs x).getD d) else none
 | _ => none
def op_addI : List W -> Option W
 | [.int i, .int j] => some (.int (i + j))
 | _ => none
def op_neSetI : List W -> Option W
 | [.lst a, .lst b] => match intsOf a, intsOf b with
  | some x, some y => if x.length < 4000 ∧ y.length < 4000 then some (.bl (!(x.all (fun i => decide (i ∈ y)) && y.all (fun i => decide (i ∈ x))))) else none
  | _, _ => none
 | _ => none
def op_listRange : List W -> Option W
 | [.int n] => if -1000000000 < n ∧ n < 1000000 then some (.lst ((List.range n.toNat).map fun (i : Nat) => .int i)) else none
 | _ => none
def op_dct3 : List W -> Option W
 | [a, x, b, y, c, z] => if keyOk 8 a && keyOk 8 b && keyOk 8 c && !weq a b && !weq a c && !weq b c then some (.dct [a, b, c] [x, y, z]) else none
 | _ => none
def opW : Op -> List W -> Option W
 | .add, ws => op_add ws
 | .sub, ws => op_sub ws
 | .mul, ws => op_mul ws
 | .fdiv, ws => op_fdiv ws
 | .mod, ws => op_mod ws
 | .pow, ws => op_pow ws
 | .neg, ws => op_neg ws
 | .not, ws => op_not ws
 | .notV, ws => op_notV ws
 | .eq, ws => op_eq ws
 | .ne, ws => op_ne ws
 | .lt, ws => op_lt ws
 | .le, ws => op_le ws
 | .gt, ws => op_gt ws
 | .ge, ws => op_ge ws
 | .isN, ws => op_isN ws
 | .notN, ws => op_notN ws
 | .isT, ws => op_isT ws
 | .notT, ws => op_notT ws
 | .isF, ws => op_isF ws
 | .notF, ws => op_notF ws
 | .inn, ws => op_inn ws
 | .nin, ws => op_nin ws
 | .idx, ws => op_idx ws
 | .slice true true, ws => op_sliceTT ws
 | .slice true false, ws => op_sliceTF ws
 | .slice false true, ws => op_sliceFT ws
 | .sliceBy, ws => op_sliceBy ws
 | .len, ws => op_len ws
 | .abs, ws => op_abs ws
 | .int, ws => op_int ws
 | .str, ws => op_str ws
 | .list, ws => op_list ws
 | .tuple, ws => op_tuple ws
 | .sorted, ws => op_sorted ws
 | .sum, ws => op_sum ws
 | .max1, ws => op_max1 ws
 | .min1, ws => op_min1 ws
 | .max2, ws => op_max2 ws
 | .min2, ws => op_min2 ws
 | .lenSet, ws => op_lenSet ws
 | .repr, ws => op_repr ws
 | .insG, ws => op_insG ws
 | .eqE, ws => op_eqE ws
 | .neE, ws => op_neE ws
 | .isinst ts, ws => op_isinst ts ws
 | .tup, ws => op_tup ws
 | .lst, ws => op_lst ws
 | .dct0, ws => op_dct0 ws
 | .dct1, ws => op_dct1 ws
 | .fld f, ws => op_fld f ws
 | .index, ws => op_index ws
 | .listValues, ws => op_listValues ws
 | .listItems, ws => op_listItems ws
 | .get2, ws => op_get2 ws
 | .addI, ws => op_addI ws
 | .neSetI, ws => op_neSetI ws
 | .listRange, ws => op_listRange ws
 | .dct3, ws => op_dct3 ws
 | .unpL, ws => op_unpL ws
 | .mulS, ws => op_mulS ws
 | _, _ => none
def oh_len : List R -> Hh -> Option (R × Hh)
 | [.loc l], h => match h[l]? with
  | some (.lst rs) => some (.w (.int rs.length), h)
  | some (.dct ks _) => some (.w (.int ks.length), h)
  | _ => none
 | _, _ => none
def oh_idx : List R -> Hh -> Option (R × Hh)
 | [.loc l, .w x], h => match h[l]?, x with
  | some (.lst rs), .int i => (atI rs i).map fun r => (r, h)
  | some (.tup rs), .int i => (atI rs i).map fun r => (r, h)
  | some (.dct ks vs), x => if keyOk 8 x then (dfind ks vs x).map fun r => (r, h) else none
  | _, _ => none
 | _, _ => none
def oh_eqE : List R -> Hh -> Option (R × Hh)
 | [.loc l], h => match h[l]? with
  | some (.lst rs) => some (.w (.bl rs.isEmpty), h)
  | _ => none
 | _, _ => none
def oh_neE : List R -> Hh -> Option (R × Hh)
 | [.loc l], h => match h[l]? with
  | some (.lst rs) => some (.w (.bl (!rs.isEmpty)), h)
  | _ => none
 | _, _ => none
def oh_isN : List R -> Hh -> Option (R × Hh)
 | [.loc _], h => some (.w (.bl false), h)
 | _, _ => none
def oh_notN : List R -> Hh -> Option (R × Hh)
 | [.loc _], h => some (.w (.bl true), h)
 | _, _ => none
def oh_isinst (ts : List Ty) : List R -> Hh -> Option (R × Hh)
 | [.loc l], h => match h[l]? with
  | some .dead => none
  | some (.exc _ _) => none
  | some o => some (.w (.bl (ts.any fun t => instO t o)), h)
  | none => none
 | _, _ => none
def oh_inn : List R -> Hh -> Option (R × Hh)
 | [.w x, .loc l], h => match h[l]? with
  | some (.dct ks _) => if keyOk 8 x then some (.w (.bl (dhas ks x)), h) else none
  | some (.lst rs) => match allW rs with
   | some ws => (op_inn [x, .lst ws]).map fun w => (.w w, h)
   | none => none
  | _ => none
 | _, _ => none
def oh_nin : List R -> Hh -> Option (R × Hh)
 | [.w x, .loc l], h => match h[l]? with
  | some (.dct ks _) => if keyOk 8 x then some (.w (.bl (!dhas ks x)), h) else none
  | some (.lst rs) => match allW rs with
   | some ws => (op_nin [x, .lst ws]).map fun w => (.w w, h)
   | none => none
  | _ => none
 | _, _ => none
def oh_fld (f : Nat) : List R -> Hh -> Option (R × Hh)
 | [.loc l], h => match h[l]? with
  | some (.ins _ ns vs) => (fldAt ns vs f).map fun r => (r, h)
  | _ => none
 | _, _ => none
def oh_list : List R -> Hh -> Option (R × Hh)
 | [.loc l], h => match h[l]? with
  | some (.lst rs) => (allW rs).map fun ws => (.w (.lst ws), h)
  | some (.dct ks _) => some (.w (.lst ks), h)
  | _ => none
 | _, _ => none
def oh_tuple : List R -> Hh -> Option (R × Hh)
 | [.loc l], h => match h[l]? with
  | some (.lst rs) => (allW rs).map fun ws => (.w (.tup ws), h)
  | _ => none
 | _, _ => none
def oh_get2 : List R -> Hh -> Option (R × Hh)
 | [.loc l, .w x, .w d], h => match h[l]? with
  | some (.dct ks vs) => if keyOk 8 x then some ((dfind ks vs x).getD (.w d), h) else none
  | _ => none
 | _, _ => none
def oh_append : List R -> Hh -> Option (R × Hh)
 | [.loc l, r], h => match h[l]? with
  | some (.lst rs) => if rs.length < sizeMax then some (.w .non, h.set l (.lst (rs ++ [r]))) else none
  | _ => none
 | _, _ => none
def oh_extend : List R -> Hh -> Option (R × Hh)
 | [.loc l, .w (.lst ws)], h => match h[l]? with
  | some (.lst rs) => if rs.length + ws.length <= sizeMax then some (.w .non, h.set l (.lst (rs ++ ws.map .w))) else none
  | _ => none
 | [.loc l, .w (.tup ws)], h => match h[l]? with
  | some (.lst rs) => if rs.length + ws.length <= sizeMax then some (.w .non, h.set l (.lst (rs ++ ws.map .w))) else none
  | _ => none
 | _, _ => none
def oh_pop : List R -> Hh -> Option (R × Hh)
 | [.loc l, .w (.int i)], h => match h[l]? with
  | some (.lst rs) => if i = 0 then match rs with
    | r :: rest => some (r, h.set l (.lst rest))
    | [] => none
   else none
  | _ => none
 | _, _ => none
def scalK : W -> Bool
 | .non => true
 | .bl _ => true
 | .int _ => true
 | .str _ => true
 | _ => false
def scalS : W -> Bool
 | .rep _ => true
 | w => scalK w
def tupK : W -> Bool
 | .tup _ => true
 | _ => false
def smallT : List W := [.tup [.int 0, .int 1], .tup [.int 1, .int 1], .tup [.int 1, .int 2], .tup [.int 1, .int 3]]
def updOk (ks js : List W) : Bool := !ks.isEmpty || (Nat.ble js.length 8 && js.all scalK) || (js.all tupK && (Nat.ble js.length 1 || js.all fun j => smallT.any fun k => wid k j))
def puts (ks : List W) (vs : List R) : List W -> List W -> List W × List R
 | j :: js, u :: us => puts (dput ks vs j (.w u)).1 (dput ks vs j (.w u)).2 js us
 | _, _ => (ks, vs)
def oh_update : List R -> Hh -> Option (R × Hh)
 | [.loc l, .w (.dct js us)], h => match h[l]? with
  | some (.dct ks vs) =>
   if updOk ks js && decide (ks.length + js.length <= sizeMax) && decide (vs.length = ks.length) && decide (us.length = js.length) then some (.w .non, h.set l (.dct (puts ks vs js us).1 (puts ks vs js us).2)) else none
  | _ => none
 | _, _ => none
def oh_setdefault : List R -> Hh -> Option (R × Hh)
 | [.loc l, .w x, r], h => match h[l]? with
  | some (.dct ks vs) => if keyOk 8 x && decide (ks.length < sizeMax) then match dfind ks vs x with
    | some r' => some (r', h)
    | none => some (r, h.set l (.dct (ks ++ [x]) (vs ++ [r])))
   else none
  | _ => none
 | _, _ => none
def oh_remove : List R -> Hh -> Option (R × Hh)
 | [.loc l, .w (.int i)], h => match h[l]? with
  | some (.lst rs) => match allW rs with
   | some ws => match intsOf ws with
    | some is => if i ∈ is then some (.w .non, h.set l (.lst ((is.erase i).map fun j => .w (.int j)))) else none
    | none => none
   | none => none
  | _ => none
 | _, _ => none
def oh_insert : List R -> Hh -> Option (R × Hh)
 | [.loc l, .w (.int i), r], h => match h[l]? with
  | some (.lst rs) => if 0 <= i ∧ i.toNat <= rs.length ∧ rs.length < sizeMax then some (.w .non, h.set l (.lst (rs.take i.toNat ++ r :: rs.drop i.toNat))) else none
  | _ => none
 | _, _ => none
def oh_reverse : List R -> Hh -> Option (R × Hh)
 | [.loc l], h => match h[l]? with
  | some (.lst rs) => some (.w .non, h.set l (.lst rs.reverse))
  | _ => none
 | _, _ => none
def oh_addO : List R -> Hh -> Option (R × Hh)
 | [.loc l, .w (.lst ws)], h => match h[l]? with
  | some (.lst rs) => match allW rs with
   | some us => if us.length + ws.length <= sizeMax then some (.w (.lst (us ++ ws)), h) else none
   | none => none
  | _ => none
 | _, _ => none
def oh_catO : List R -> Hh -> Option (R × Hh)
 | [.loc l, .loc k], h => match h[l]?, h[k]? with
  | some (.lst rs), some (.lst us) => if rs.length + us.length <= sizeMax then some (.loc h.length, h ++ [.lst (rs ++ us)]) else none
  | _, _ => none
 | _, _ => none
def oh_pick2 : List R -> Hh -> Option (R × Hh)
 | [a, b, .w (.int i)], h => if i = 0 then some (a, h) else if i = 1 then some (b, h) else none
 | _, _ => none
def opH : Op -> List R -> Hh -> Option (R × Hh)
 | .len, rs, h => oh_len rs h
 | .idx, rs, h => oh_idx rs h
 | .eqE, rs, h => oh_eqE rs h
 | .neE, rs, h => oh_neE rs h
 | .isN, rs, h => oh_isN rs h
 | .notN, rs, h => oh_notN rs h
 | .isinst ts, rs, h => oh_isinst ts rs h
 | .inn, rs, h => oh_inn rs h
 | .nin, rs, h => oh_nin rs h
 | .fld f, rs, h => oh_fld f rs h
 | .list, rs, h => oh_list rs h
 | .tuple, rs, h => oh_tuple rs h
 | .get2, rs, h => oh_get2 rs h
 | .append, rs, h => oh_append rs h
 | .extend, rs, h => oh_extend rs h
 | .pop, rs, h => oh_pop rs h
 | .update, rs, h => oh_update rs h
 | .setdefault, rs, h => oh_setdefault rs h
 | .addO, rs, h => oh_addO rs h
 | .remove, rs, h => oh_remove rs h
 | .insert, rs, h => oh_insert rs h
 | .reverse, rs, h => oh_reverse rs h
 | .pick2, rs, h => oh_pick2 rs h
 | .catO, rs, h => oh_catO rs h
 | _, _, _ => none
def opR (o : Op) (rs : List R) (h : Hh) : Res R := match allW rs with
 | some ws => match opW o ws with
  | some w => .ok (.w w) h
  | none => .no
 | none => match opH o rs h with
  | some (r, h') => .ok r h'
  | none => .no
def setSub (o i : R) (v : R) (h : Hh) : Option Hh := match o, i with
 | .loc l, .w x => match h[l]?, x with
  | some (.lst rs), .int k => if 0 <= k ∧ k.toNat < rs.length then some (h.set l (.lst (rs.set k.toNat v))) else none
  | some (.dct ks vs), x => if keyOk 8 x && decide (ks.length < sizeMax) then
    let p := dput ks vs x v
    some (h.set l (.dct p.1 p.2)) else none
  | _, _ => none
 | _, _ => none
def setFld (o : R) (f : Nat) (v : R) (h : Hh) : Option Hh := match o with
 | .loc l => match h[l]? with
  | some (.ins C ns vs) => if ns.length < 100 then
    let p := fldPut ns vs f v
    some (h.set l (.ins C p.1 p.2)) else none
  | _ => none
 | _ => none
mutual
def setT : T -> R -> Env -> Option Env
 | .n i, r, env => some (env.set i (some r))
 | .t ts, .w (.tup ws), env => if ts.length = ws.length then setTs ts ws env else none
 | _, _, _ => none
def setTs : List T -> List W -> Env -> Option Env
 | [], _, env => some env
 | t :: ts, w :: ws, env => match setT t (.w w) env with
  | some env' => setTs ts ws env'
  | none => none
 | _ :: _, [], _ => none
end
mutual
def slotsT : T -> List Nat
 | .n i => [i]
 | .t ts => slotsTs ts
def slotsTs : List T -> List Nat
 | [] => []
 | t :: ts => slotsT t ++ slotsTs ts
end
def wipe : List Nat -> Env -> Env
 | [], env => env
 | i :: is, env => (wipe is env).set i none
def pairW (xs ys : List W) : List W := (xs.zip ys).map fun p => .tup [p.1, p.2]
def tripW (xs ys zs : List W) : List W := (xs.zip (ys.zip zs)).map fun p => .tup [p.1, p.2.1, p.2.2]
def seqW : W -> Option (List W)
 | .lst ws => some ws
 | .tup ws => some ws
 | .str x => some (x.map fun c => .str [c])
 | .dct ks _ => some ks
 | _ => none
def rangeW (lo : Int) : Nat -> List W
 | 0 => []
 | n + 1 => .int lo :: rangeW (lo + 1) n
def enumW : Int -> List W -> List W
 | _, [] => []
 | i, w :: ws => .tup [.int i, w] :: enumW (i + 1) ws
def walkW : IK -> List W -> Option (List W)
 | .seq, [w] => seqW w
 | .range, [.int n] => if -1000000000 < n ∧ n < 1000000 then some (rangeW 0 n.toNat) else none
 | .range, [.int a, .int b] => if b - a < 1000000 ∧ -1000000000 < a ∧ a < 1000000000 ∧ -1000000000 < b then some (rangeW a (b - a).toNat) else none
 | .zip, [.lst xs, .lst ys] => some (pairW xs ys)
 | .zip, [.tup xs, .tup ys] => some (pairW xs ys)
 | .enum, [.lst ws] => some (enumW 0 ws)
 | .values, [.dct ks vs] => if vs.length = ks.length then some vs else none
 | .items, [.dct ks vs] => some (pairW ks vs)
 | .zip3, [.tup xs, .tup ys, .tup zs] => some (tripW xs ys zs)
 | .enum, [.tup ws] => some (enumW 0 ws)
 | _, _ => none
def walk (k : IK) (rs : List R) (h : Hh) : Option (List W × List (Nat × O)) := match allW rs with
 | some ws => (walkW k ws).map fun l => (l, [])
 | none => match k, rs with
  | .seq, [.loc l] => match h[l]? with
   | some (.lst xs) => (allW xs).map fun ws => (ws, [(l, .lst xs)])
   | _ => none
  | _, _ => none
def itemsX (h : Hh) : R -> Option (List R × List (Nat × O))
 | .w (.tup ws) => some (ws.map .w, [])
 | .w (.lst ws) => some (ws.map .w, [])
 | .loc l => match h[l]? with
  | some (.lst rs) => some (rs, [(l, .lst rs)])
  | some (.tup rs) => some (rs, [(l, .tup rs)])
  | _ => none
 | _ => none
mutual
def sameW : W -> W -> Bool
 | .non, .non => true
 | .bl a, .bl b => a == b
 | .int i, .int j => decide (i = j)
 | .str x, .str y => decide (x = y)
 | .tup xs, .tup ys => sameWs xs ys
 | .lst xs, .lst ys => sameWs xs ys
 | .dct ks vs, .dct js us => sameWs ks js && sameWs vs us
 | .ins C ns vs, .ins D ms us => decide (C = D) && decide (ns = ms) && sameWs vs us
 | .exc C v, .exc D u => decide (C = D) && sameW v u
 | _, _ => false
def sameWs : List W -> List W -> Bool
 | [], [] => true
 | x :: xs, y :: ys => sameW x y && sameWs xs ys
 | _, _ => false
end
def sameRs : List R -> List R -> Bool
 | [], [] => true
 | .w a :: xs, .w b :: ys => sameW a b && sameRs xs ys
 | .loc a :: xs, .loc b :: ys => decide (a = b) && sameRs xs ys
 | _, _ => false
def sameO : O -> O -> Bool
 | .lst a, .lst b => sameRs a b
 | .dct k a, .dct j b => sameWs k j && sameRs a b
 | .tup a, .tup b => sameRs a b
 | _, _ => false
def still (h : Hh) : List (Nat × O) -> Bool
 | [] => true
 | (l, o) :: r => (match h[l]? with | some o' => sameO o o' | none => false) && still h r
abbrev Call := Md -> Nat -> List R -> Hh -> Res R
structure Cls where
 props : List (Nat × Nat × Nat)
 meths : List (Nat × Nat × Nat)
 eqs : List (Nat × Nat)
def look2 : List (Nat × Nat × Nat) -> Nat -> Nat -> Option Nat
 | [], _, _ => none
 | (a, b, c) :: r, x, y => if a = x ∧ b = y then some c else look2 r x y
def look1 : List (Nat × Nat) -> Nat -> Option Nat
 | [], _ => none
 | (a, c) :: r, x => if a = x then some c else look1 r x
section
variable (cl : Cls) (call : Call)
def clsOf (h : Hh) : R -> Option Nat
 | .w (.ins C _ _) => some C
 | .loc l => match h[l]? with
  | some (.ins C _ _) => some C
  | _ => none
 | _ => none
def cmpW (h : Hh) (C : Nat) (b : R) : Bool := match clsOf h b with
 | some D => D == C
 | none => match b with
  | .w .non => true
  | .w (.lst _) => true
  | _ => false
def opC (o : Op) (rs : List R) (h : Hh) : Res R := match o, rs with
 | .eq, [a, b] => match clsOf h a with
  | some C => match look1 cl.eqs C with
   | some f => if cmpW h C b then call .pu f [a, b] h else .no
   | none => .no
  | none => match clsOf h b with
   | some _ => .no
   | none => opR .eq rs h
 | .ne, [a, b] => match clsOf h a with
  | some C => match look1 cl.eqs C with
   | some f => if cmpW h C b then (match call .pu f [a, b] h with
    | .ok (.w (.bl t)) h => .ok (.w (.bl (!t))) h
    | .ex c v => .ex c v
    | _ => .no) else .no
   | none => .no
  | none => match clsOf h b with
   | some _ => .no
   | none => opR .ne rs h
 | _, _ => opR o rs h
def attrC (f : Nat) (r : R) (h : Hh) : Res R := match clsOf h r with
 | some C => match look2 cl.props C f with
  | some g => call .pu g [r] h
  | none => .no
 | none => match f, r with
  | 0, .w (.exc _ v) => .ok (.w v) h
  | _, _ => .no
def snapE (h : Hh) (env : Env) : Env := env.map fun o => match o with
 | some r => (fz h 0 20 r).map .w
 | none => none
def fldsOf (h : Hh) : R -> List Nat
 | .w (.ins _ ns _) => ns
 | .loc l => match h[l]? with
  | some (.ins _ ns _) => ns
  | _ => []
 | _ => []
def methF (f : Nat) (r : R) (h : Hh) : Option Nat := match clsOf h r with
 | some C => if (fldsOf h r).contains f then none else look2 cl.meths C f
 | none => none
def lcLoop (t : T) (env : Env) (st : List (Nat × O)) (body : Env -> Hh -> Res (List W)) : List W -> Hh -> Res (List W)
 | [], h => if still h st then .ok [] h else .no
 | w :: ws, h => if still h st then match setT t (.w w) env with
  | none => .no
  | some env' => match body env' h with
   | .ok xs h' => match lcLoop t env st body ws h' with
    | .ok ys h'' => .ok (xs ++ ys) h''
    | r => r
   | _ => .no
  else .no
def lcLoopO (t : T) (env : Env) (st : List (Nat × O)) (body : Env -> Hh -> Res (List R)) : List R -> Hh -> Res (List R)
 | [], h => if still h st then .ok [] h else .no
 | w :: ws, h => if still h st then match setT t w env with
  | none => .no
  | some env' => match body env' h with
   | .ok xs h' => match lcLoopO t env st body ws h' with
    | .ok ys h'' => .ok (xs ++ ys) h''
    | r => r
   | _ => .no
  else .no
def asR : Res R -> Res (List R)
 | .ok r h => .ok [r] h
 | _ => .no
def asW : Res R -> Res (List W)
 | .ok (.w w) h => .ok [w] h
 | _ => .no
def pairsPut : List W -> List W -> List W -> Option (List W × List W)
 | k :: v :: r, ks, vs => if keyOk 8 k && decide (ks.length < sizeMax) then
   let p := dput ks vs k v
   pairsPut r p.1 p.2 else none
 | [], ks, vs => some (ks, vs)
 | [_], _, _ => none
mutual
def solidB : W -> Bool
 | .non => true
 | .bl _ => true
 | .int _ => true
 | .str _ => true
 | .rep _ => true
 | .tup ws => solids ws
 | .ins _ _ ws => solids ws
 | _ => false
def solids : List W -> Bool
 | [] => true
 | w :: ws => solidB w && solids ws
end
def noIns : O -> Bool
 | .ins _ _ _ => false
 | .exc _ _ => false
 | _ => true
def shR (n m : Nat) : R -> Option R
 | .w w => some (.w w)
 | .loc k => if n <= k then some (.loc (k - n + m)) else none
def shRs (n m : Nat) : List R -> Option (List R)
 | [] => some []
 | r :: rs => match shR n m r, shRs n m rs with
  | some r', some rs' => some (r' :: rs')
  | _, _ => none
def shO (n m : Nat) : O -> Option O
 | .lst rs => (shRs n m rs).map .lst
 | .dct ks vs => (shRs n m vs).map (.dct ks)
 | .ins c ns vs => (shRs n m vs).map (.ins c ns)
 | .tup rs => (shRs n m rs).map .tup
 | .exc c r => (shR n m r).map (.exc c)
 | .dead => none
def shOs (n m : Nat) : Hh -> Option Hh
 | [] => some []
 | o :: os => match shO n m o, shOs n m os with
  | some o', some os' => some (o' :: os')
  | _, _ => none
def solidR : R -> Bool
 | .w w => solidB w
 | .loc _ => true
def solidO : O -> Bool
 | .lst rs => rs.all solidR
 | .dct ks vs => solids ks && vs.all solidR
 | .tup rs => rs.all solidR
 | _ => false
def rsOf : Option O -> Option (List R)
 | some (.lst rs) => some rs
 | some (.tup rs) => some rs
 | _ => none
def likeO : Option O -> List R -> O
 | some (.tup _), rs => .tup rs
 | _, rs => .lst rs
def cutO (b : Bool) (j : Int) : Option O -> Option O
 | some (.lst rs) => some (.lst (if b then cut rs (cutAt rs.length j) rs.length else cut rs 0 (cutAt rs.length j)))
 | some (.tup rs) => if b then (if cutAt rs.length j = 0 then none else some (.tup (cut rs (cutAt rs.length j) rs.length))) else if cutAt rs.length j = rs.length then none else some (.tup (cut rs 0 (cutAt rs.length j)))
 | _ => none
def kindOk : Op -> Option O -> Bool
 | .append, some (.lst _) => true
 | .extend, some (.lst _) => true
 | .pop, some (.lst _) => true
 | .remove, some (.lst _) => true
 | .insert, some (.lst _) => true
 | .reverse, some (.lst _) => true
 | .update, some (.dct _ _) => true
 | .setdefault, some (.dct _ _) => true
 | .get2, some (.dct _ _) => true
 | _, _ => false
def reach (h : Hh) : Nat -> R -> List Nat
 | _, .w _ => []
 | 0, .loc _ => []
 | k + 1, .loc l => l :: match h[l]? with
  | some (.lst rs) => rs.flatMap (reach h k)
  | some (.dct _ vs) => vs.flatMap (reach h k)
  | some (.ins _ _ vs) => vs.flatMap (reach h k)
  | some (.tup rs) => rs.flatMap (reach h k)
  | _ => []
def kill (h : Hh) (ls : List Nat) : Hh := ls.foldl (fun g l => g.set l .dead) h
mutual
def ev : E -> Env -> Hh -> Res R
 | .c w, _, h => .ok (.w w) h
 | .v i, env, h => match env[i]? with
  | some (some r) => .ok r h
  | _ => .no
 | .op o es, env, h => match evs es env h with
  | .ok rs h' => opC cl call o rs h'
  | .ex C v => .ex C v
  | .no => .no
 | .mut o i es, env, h => match env[i]? with
  | some (some (.loc l)) => if kindOk o h[l]? then match evs es env h with
    | .ok rs h1 => opR o (.loc l :: rs) h1
    | .ex C v => .ex C v
    | .no => .no
   else .no
  | _ => .no
 | .mutE o t es, env, h => match ev t env h with
  | .ok (.loc l) h0 => if kindOk o h0[l]? then match evs es env h0 with
    | .ok rs h1 => opR o (.loc l :: rs) h1
    | .ex C v => .ex C v
    | .no => .no
   else .no
  | .ex C v => .ex C v
  | _ => .no
 | .and a b, env, h => match ev a env h with
  | .ok (.w (.bl false)) h' => .ok (.w (.bl false)) h'
  | .ok (.w (.bl true)) h' => ev b env h'
  | .ok _ _ => .no
  | r => r
 | .or a b, env, h => match ev a env h with
  | .ok (.w (.bl true)) h' => .ok (.w (.bl true)) h'
  | .ok (.w (.bl false)) h' => ev b env h'
  | .ok _ _ => .no
  | r => r
 | .orV a b, env, h => match ev a env h with
  | .ok (.w (.lst [])) h' => ev b env h'
  | .ok (.w (.lst (w :: ws))) h' => .ok (.w (.lst (w :: ws))) h'
  | .ok _ _ => .no
  | r => r
 | .chain o p a b c, env, h => match ev a env h with
  | .ok ra h1 => match ev b env h1 with
   | .ok rb h2 => match opR o [ra, rb] h2 with
    | .ok (.w (.bl false)) h3 => .ok (.w (.bl false)) h3
    | .ok (.w (.bl true)) h3 => match ev c env h3 with
     | .ok rc h4 => opR p [rb, rc] h4
     | r => r
    | .ok _ _ => .no
    | r => r
   | r => r
  | r => r
 | .ite c a b, env, h => match ev c env h with
  | .ok (.w (.bl true)) h' => ev a env h'
  | .ok (.w (.bl false)) h' => ev b env h'
  | .ok _ _ => .no
  | r => r
 | .call m f es, env, h => match evs es env h with
  | .ok rs h' => call m f rs h'
  | .ex C v => .ex C v
  | .no => .no
 | .attr f e, env, h => match ev e env h with
  | .ok r h' => attrC cl call f r h'
  | r => r
 | .meth f o es, env, h => match ev o env h with
  | .ok r h1 => match methF cl f r h1 with
   | some g => match evs es env h1 with
    | .ok rs h2 => call .pu g (r :: rs) h2
    | .ex C v => .ex C v
    | .no => .no
   | none => .no
  | .ex C v => .ex C v
  | .no => .no
 | .methK f o es, env, h => match ev o env h with
  | .ok r h1 => match methF cl f r h1 with
   | some g => match evs es env h1 with
    | .ok rs h2 => call .kp g (r :: rs) h2
    | .ex C v => .ex C v
    | .no => .no
   | none => .no
  | .ex C v => .ex C v
  | .no => .no
 | .lc t k its cs e, env, h => match evs its env h with
  | .ok rs h1 => match walk k rs h1 with
   | some (ws, st) => match lcLoop t (wipe (slotsT t) env) st (fun env' h2 => match tests cs env' h2 with
     | .ok true h3 => asW (ev e env' h3)
     | .ok false h3 => .ok [] h3
     | _ => .no) ws h1 with
    | .ok xs h4 => if xs.length <= sizeMax then .ok (.w (.lst xs)) h4 else .no
    | _ => .no
   | none => .no
  | _ => .no
 | .lc2 t k its cs t1 k1 its1 cs1 e, env, h => match evs its env h with
  | .ok rs h1 => match walk k rs h1 with
   | some (ws, st) => match lcLoop t (wipe (slotsT t ++ slotsT t1) env) st (fun env' h2 => match tests cs env' h2 with
     | .ok true h3 => match evs its1 env' h3 with
      | .ok rs1 h4 => match walk k1 rs1 h4 with
       | some (ws1, st1) => lcLoop t1 (wipe (slotsT t1) env') (st ++ st1) (fun env2 h5 => match tests cs1 env2 h5 with
        | .ok true h6 => asW (ev e env2 h6)
        | .ok false h6 => .ok [] h6
        | _ => .no) ws1 h4
       | none => .no
      | _ => .no
     | .ok false h3 => .ok [] h3
     | _ => .no) ws h1 with
    | .ok xs h4 => if xs.length <= sizeMax then .ok (.w (.lst xs)) h4 else .no
    | _ => .no
   | none => .no
  | _ => .no
 | .dc t k its cs ke ve, env, h => match evs its env h with
  | .ok rs h1 => match walk k rs h1 with
   | some (ws, st) => match lcLoop t (wipe (slotsT t) env) st (fun env' h2 => match tests cs env' h2 with
     | .ok true h3 => match asW (ev ke env' h3) with
      | .ok kw h4 => match asW (ev ve env' h4) with
       | .ok vw h5 => .ok (kw ++ vw) h5
       | _ => .no
      | _ => .no
     | .ok false h3 => .ok [] h3
     | _ => .no) ws h1 with
    | .ok xs h4 => match pairsPut xs [] [] with
     | some (ks, vs) => .ok (.w (.dct ks vs)) h4
     | none => .no
    | _ => .no
   | none => .no
  | _ => .no
 | .dc2 t k its cs t1 k1 its1 cs1 ke ve, env, h => match evs its env h with
  | .ok rs h1 => match walk k rs h1 with
   | some (ws, st) => match lcLoop t (wipe (slotsT t ++ slotsT t1) env) st (fun env' h2 => match tests cs env' h2 with
     | .ok true h3 => match evs its1 env' h3 with
      | .ok rs1 h4 => match walk k1 rs1 h4 with
       | some (ws1, st1) => lcLoop t1 (wipe (slotsT t1) env') (st ++ st1) (fun env2 h5 => match tests cs1 env2 h5 with
        | .ok true h6 => match asW (ev ke env2 h6) with
         | .ok kw h7 => match asW (ev ve env2 h7) with
          | .ok vw h8 => .ok (kw ++ vw) h8
          | _ => .no
         | _ => .no
        | .ok false h6 => .ok [] h6
        | _ => .no) ws1 h4
       | none => .no
      | _ => .no
     | .ok false h3 => .ok [] h3
     | _ => .no) ws h1 with
    | .ok xs h4 => match pairsPut xs [] [] with
     | some (ks, vs) => .ok (.w (.dct ks vs)) h4
     | none => .no
    | _ => .no
   | none => .no
  | _ => .no
 | .tupO es, env, h => match evs es env h with
  | .ok rs h' => if rs.length <= sizeMax then .ok (.loc h'.length) (h' ++ [.tup rs]) else .no
  | _ => .no
 | .lstO es, env, h => match evs es env h with
  | .ok rs h' => if rs.length <= sizeMax then .ok (.loc h'.length) (h' ++ [.lst rs]) else .no
  | _ => .no
 | .lcO t it cs e, env, h => match ev it env h with
  | .ok (.loc l) h1 => match h1[l]? with
   | some (.lst rs) => match lcLoopO t (wipe (slotsT t) env) [(l, .lst rs)] (fun env' h2 => match tests cs env' h2 with
     | .ok true h3 => asR (ev e env' h3)
     | .ok false h3 => .ok [] h3
     | _ => .no) rs h1 with
    | .ok xs h4 => if xs.length <= sizeMax then .ok (.loc h4.length) (h4 ++ [.lst xs]) else .no
    | _ => .no
   | _ => .no
  | _ => .no
 | .lcN t k its cs e, env, h => match evs its env h with
  | .ok rs h1 => match walk k rs h1 with
   | some (ws, st) => match lcLoopO t (wipe (slotsT t) env) st (fun env' h2 => match tests cs env' h2 with
     | .ok true h3 => asR (ev e env' h3)
     | .ok false h3 => .ok [] h3
     | _ => .no) (ws.map .w) h1 with
    | .ok xs h4 => if xs.length <= sizeMax then .ok (.loc h4.length) (h4 ++ [.lst xs]) else .no
    | _ => .no
   | none => .no
  | _ => .no
 | .lcX t it cs e, env, h => match ev it env h with
  | .ok r h1 => match itemsX h1 r with
   | some (rs, st) => match lcLoopO t (wipe (slotsT t) env) st (fun env' h2 => match tests cs env' h2 with
     | .ok true h3 => asR (ev e env' h3)
     | .ok false h3 => .ok [] h3
     | _ => .no) rs h1 with
    | .ok xs h4 => if xs.length <= sizeMax then .ok (.loc h4.length) (h4 ++ [.lst xs]) else .no
    | _ => .no
   | none => .no
  | _ => .no
 | .lc2X t k its cs t1 it1 cs1 e, env, h => match evs its env h with
  | .ok rs h1 => match walk k rs h1 with
   | some (ws, st) => match lcLoopO t (wipe (slotsT t ++ slotsT t1) env) st (fun env' h2 => match tests cs env' h2 with
     | .ok true h3 => match ev it1 env' h3 with
      | .ok r1 h4 => match itemsX h4 r1 with
       | some (rs1, st1) => lcLoopO t1 (wipe (slotsT t1) env') (st ++ st1) (fun env2 h5 => match tests cs1 env2 h5 with
        | .ok true h6 => asR (ev e env2 h6)
        | .ok false h6 => .ok [] h6
        | _ => .no) rs1 h4
       | none => .no
      | _ => .no
     | .ok false h3 => .ok [] h3
     | _ => .no) (ws.map .w) h1 with
    | .ok xs h4 => if xs.length <= sizeMax then .ok (.loc h4.length) (h4 ++ [.lst xs]) else .no
    | _ => .no
   | none => .no
  | _ => .no
 | .mkX C e, env, h => match ev e env h with
  | .ok r h1 => .ok (.loc h1.length) (h1 ++ [.exc C r])
  | _ => .no
 | .excV e, env, h => match ev e env h with
  | .ok (.loc l) h1 => match h1[l]? with
   | some (.exc C r) => if 0 < C ∧ C < 7 then .ok r h1 else .no
   | _ => .no
  | _ => .no
 | .isX cs e, env, h => match ev e env h with
  | .ok (.loc l) h1 => match h1[l]? with
   | some (.exc C _) => if 0 < C ∧ C < 7 then .ok (.w (.bl (cs.contains C))) h1 else .no
   | _ => .no
  | _ => .no
 | .repL e n, env, h => match ev e env h with
  | .ok r h1 => match ev n env h1 with
   | .ok (.w (.int k)) h2 => if 0 <= k ∧ k < 1000 then .ok (.loc h2.length) (h2 ++ [.lst (List.replicate k.toNat r)]) else .no
   | _ => .no
  | _ => .no
 | .reprEq b x y, env, h => match ev x env h with
  | .ok r1 h1 => match fz h1 0 20 r1 with
   | some w1 => match ev y env h1 with
    | .ok r2 h2 => match fz h2 0 20 r2 with
     | some w2 => if sameW w1 w2 && reprOkE w1 then .ok (.w (.bl b)) h2 else .no
     | none => .no
    | _ => .no
   | none => .no
  | _ => .no
 | .frE e, env, h => match ev e env h with
  | .ok (.loc l) h1 => match fz h1 0 20 (.loc l) with
   | some w => .ok (.w w) (kill h1 (reach h1 20 (.loc l)))
   | none => .no
  | _ => .no
 | .slO b e i, env, h => match ev e env h with
  | .ok (.loc l) h1 => match ev i env h1 with
   | .ok (.w (.int j)) h2 => match cutO b j h2[l]? with
    | some o => .ok (.loc h2.length) (h2 ++ [o])
    | none => .no
   | _ => .no
  | _ => .no
 | .tupL e, env, h => match ev e env h with
  | .ok (.loc l) h1 => match h1[l]? with
   | some (.lst rs) => .ok (.loc h1.length) (h1 ++ [.tup rs])
   | _ => .no
  | _ => .no
 | .addT a b, env, h => match ev a env h with
  | .ok (.w (.tup ws)) h1 => match ev b env h1 with
   | .ok (.loc l) h2 => match h2[l]? with
    | some (.tup rs) => if ws.length + rs.length <= sizeMax && !ws.isEmpty && !rs.isEmpty then .ok (.loc h2.length) (h2 ++ [.tup (ws.map .w ++ rs)]) else .no
    | _ => .no
   | _ => .no
  | _ => .no
 | .snapO e, env, h => match ev e (snapE h env) [] with
  | .ok (.loc l) g => if g.all solidO && h.all noIns then match shOs 0 h.length g with
   | some os => .ok (.loc (l + h.length)) (h ++ os)
   | none => .no
   else .no
  | _ => .no
 | .snapV e, env, h => match ev e (snapE h env) [] with
  | .ok (.w w) _ => if solidB w && h.all noIns then .ok (.w w) h else .no
  | _ => .no
 | .attrD f e, env, h => match ev e env h with
  | .ok r h1 => match clsOf h1 r with
   | some C => match look2 cl.props C f with
    | some g => call .kd g [r] h1
    | none => .no
   | none => .no
  | _ => .no
 | .al e, env, h => match ev e env h with
  | .ok (.w (.lst ws)) h' => .ok (.loc h'.length) (h' ++ [.lst (ws.map .w)])
  | .ok (.w (.dct ks vs)) h' => .ok (.loc h'.length) (h' ++ [.dct ks (vs.map .w)])
  | .ok _ _ => .no
  | r => r
 | .snap e, env, h => match ev e (snapE h env) [] with
  | .ok (.w w) _ => if scalS w then .ok (.w w) h else .no
  | _ => .no
def evs : List E -> Env -> Hh -> Res (List R)
 | [], _, h => .ok [] h
 | e :: es, env, h => match ev e env h with
  | .ok r h' => match evs es env h' with
   | .ok rs h'' => .ok (r :: rs) h''
   | .ex C v => .ex C v
   | .no => .no
  | .ex C v => .ex C v
  | .no => .no
def tests : List E -> Env -> Hh -> Res Bool
 | [], _, h => .ok true h
 | e :: es, env, h => match ev e env h with
  | .ok (.w (.bl true)) h' => tests es env h'
  | .ok (.w (.bl false)) h' => .ok false h'
  | _ => .no
end
structure Out where
 fl : Fl
 env : Env
def forLoop (t : T) (st : List (Nat × O)) (body : Env -> Hh -> Res Out) : List W -> Env -> Hh -> Res Out
 | [], env, h => if still h st then .ok ⟨.nx, env⟩ h else .no
 | w :: ws, env, h => if still h st then match setT t (.w w) env with
   | none => .no
   | some env' => match body env' h with
    | .ok ⟨.nx, env2⟩ h2 => forLoop t st body ws env2 h2
    | .ok ⟨.bk, env2⟩ h2 => .ok ⟨.nx, env2⟩ h2
    | r => r
  else .no
def forLoopO (t : T) (st : List (Nat × O)) (body : Env -> Hh -> Res Out) : List R -> Env -> Hh -> Res Out
 | [], env, h => if still h st then .ok ⟨.nx, env⟩ h else .no
 | w :: ws, env, h => if still h st then match setT t w env with
   | none => .no
   | some env' => match body env' h with
    | .ok ⟨.nx, env2⟩ h2 => forLoopO t st body ws env2 h2
    | .ok ⟨.bk, env2⟩ h2 => .ok ⟨.nx, env2⟩ h2
    | r => r
  else .no
def putAll : List Nat -> List R -> Env -> Env
 | i :: is, r :: rs, env => putAll is rs (env.set i (some r))
 | _, _, env => env
def forLoopZ (is : List Nat) (st : List (Nat × O)) (body : Env -> Hh -> Res Out) : List (W × R) -> Env -> Hh -> Res Out
 | [], env, h => if still h st then .ok ⟨.nx, env⟩ h else .no
 | p :: ps, env, h => if still h st then match body (putAll is [.w p.1, p.2] env) h with
   | .ok ⟨.nx, env2⟩ h2 => forLoopZ is st body ps env2 h2
   | .ok ⟨.bk, env2⟩ h2 => .ok ⟨.nx, env2⟩ h2
   | r => r
  else .no
def whlLoop (test : Env -> Hh -> Res R) (body : Env -> Hh -> Res Out) : Nat -> Env -> Hh -> Res Out
 | 0, _, _ => .no
 | n + 1, env, h => match test env h with
  | .ok (.w (.bl true)) h1 => match body env h1 with
   | .ok ⟨.nx, env2⟩ h2 => whlLoop test body n env2 h2
   | .ok ⟨.bk, env2⟩ h2 => .ok ⟨.nx, env2⟩ h2
   | r => r
  | .ok (.w (.bl false)) h1 => .ok ⟨.nx, env⟩ h1
  | .ok _ _ => .no
  | .ex C v => .ex C v
  | .no => .no
def doFreeze (i : Nat) (env : Env) (h : Hh) : Option (Env × Hh) := match env[i]? with
 | some (some (.loc l)) => match fz h 0 20 (.loc l) with
  | some w => some (env.set i (some (.w w)), kill h (reach h 20 (.loc l)))
  | none => none
 | _ => none
def unfs (x : Env -> Hh -> Res R) : List Nat -> List W -> Env -> Hh -> Option Hh
 | [], [], _, h => some h
 | f :: fs, w :: ws, env, h => match x env h with
  | .ok ro h1 => match setFld ro f (.w w) h1 with
   | some h2 => unfs x fs ws env h2
   | none => none
  | _ => none
 | _, _, _, _ => none
def raiseC (call : Call) (f : Nat) (rs : List R) (env : Env) (h : Hh) : Res Out := match call .xr f rs h with
 | .ok r h' => .ok ⟨.rt r, env⟩ h'
 | _ => .no
def raiseE : E -> Env -> Hh -> Res Out
 | .call (.mk C) f es, env, h => match evs cl call es env h with
  | .ok rs h1 => raiseC call f (.loc h1.length :: rs) env (h1 ++ [.ins C [] []])
  | _ => .no
 | .call _ f es, env, h => match evs cl call es env h with
  | .ok rs h1 => raiseC call f rs env h1
  | _ => .no
 | .meth f o es, env, h => match ev cl call o env h with
  | .ok r h1 => match methF cl f r h1 with
   | some g => match evs cl call es env h1 with
    | .ok rs h2 => raiseC call g (r :: rs) env h2
    | _ => .no
   | none => .no
  | _ => .no
 | _, _, _ => .no
mutual
def exec (fuel : Nat) : S -> Env -> Hh -> Res Out
 | .asg t e, env, h => match ev cl call e env h with
  | .ok r h' => match setT t r env with
   | some env' => .ok ⟨.nx, env'⟩ h'
   | none => .no
  | .ex C v => .ex C v
  | .no => .no
 | .par is es, env, h => match evs cl call es env h with
  | .ok rs h' => if is.length = rs.length then .ok ⟨.nx, putAll is rs env⟩ h' else .no
  | .ex C v => .ex C v
  | .no => .no
 | .parO is e, env, h => match ev cl call e env h with
  | .ok (.loc p) h1 => match h1[p]? with
   | some (.tup rs) => if is.length = rs.length then .ok ⟨.nx, putAll is rs env⟩ h1 else .no
   | _ => .no
  | .ex C v => .ex C v
  | _ => .no
 | .sub o i e, env, h => match ev cl call e env h with
  | .ok r h1 => match ev cl call o env h1 with
   | .ok ro h2 => match ev cl call i env h2 with
    | .ok ri h3 => match setSub ro ri r h3 with
     | some h4 => .ok ⟨.nx, env⟩ h4
     | none => .no
    | _ => .no
   | _ => .no
  | .ex C v => .ex C v
  | .no => .no
 | .fld o f e, env, h => match ev cl call e env h with
  | .ok r h1 => match ev cl call o env h1 with
   | .ok ro h2 => match setFld ro f r h2 with
    | some h3 => .ok ⟨.nx, env⟩ h3
    | none => .no
   | _ => .no
  | .ex C v => .ex C v
  | .no => .no
 | .aug i o e, env, h => match env[i]? with
  | some (some r0) => match ev cl call e env h with
   | .ok r h1 => match opR o [r0, r] h1 with
    | .ok r2 h2 => .ok ⟨.nx, env.set i (some r2)⟩ h2
    | _ => .no
   | .ex C v => .ex C v
   | .no => .no
  | _ => .no
 | .exp e, env, h => match ev cl call e env h with
  | .ok _ h' => .ok ⟨.nx, env⟩ h'
  | .ex C v => .ex C v
  | .no => .no
 | .ret e, env, h => match ev cl call e env h with
  | .ok r h' => .ok ⟨.rt r, env⟩ h'
  | .ex C v => .ex C v
  | .no => .no
 | .ifs c a b, env, h => match ev cl call c env h with
  | .ok (.w (.bl true)) h' => execs fuel a env h'
  | .ok (.w (.bl false)) h' => execs fuel b env h'
  | .ok _ _ => .no
  | .ex C v => .ex C v
  | .no => .no
 | .whl c b, env, h => whlLoop (ev cl call c) (execs fuel b) fuel env h
 | .for t k its b, env, h => match evs cl call its env h with
  | .ok rs h1 => match walk k rs h1 with
   | some (ws, st) => forLoop t st (execs fuel b) ws env h1
   | none => .no
  | .ex C v => .ex C v
  | .no => .no
 | .forO t it b, env, h => match ev cl call it env h with
  | .ok (.loc l) h1 => match rsOf h1[l]? with
   | some rs => forLoopO t [(l, likeO h1[l]? rs)] (execs fuel b) rs env h1
   | none => .no
  | _ => .no
 | .forZ is es b, env, h => match evs cl call es env h with
  | .ok [.w (.lst us), .loc l] h1 => match h1[l]? with
   | some (.lst rs) => if is.length = 2 then forLoopZ is [(l, .lst rs)] (execs fuel b) (us.zip rs) env h1 else .no
   | _ => .no
  | _ => .no
 | .raise C e, env, h => match ev cl call e env h with
  | .ok (.w w) _ => .ex C w
  | _ => .no
 | .tryX b i, env, h => match raises fuel b env h with
  | .ok ⟨.rt r, env'⟩ h' => .ok ⟨.nx, env'.set i (some r)⟩ h'
  | _ => match execs fuel b env h with
   | .ok ⟨.nx, env'⟩ h' => .ok ⟨.nx, env'⟩ h'
   | _ => .no
 | .brk, env, h => .ok ⟨.bk, env⟩ h
 | .pass, env, h => .ok ⟨.nx, env⟩ h
 | .freeze i, env, h => match doFreeze i env h with
  | some (env', h') => .ok ⟨.nx, env'⟩ h'
  | none => .no
 | .unf o fs e, env, h => match ev cl call e env h with
  | .ok (.w (.tup ws)) h1 => match unfs (ev cl call o) fs ws env h1 with
   | some h2 => .ok ⟨.nx, env⟩ h2
   | none => .no
  | .ex C v => .ex C v
  | _ => .no
def execs (fuel : Nat) : List S -> Env -> Hh -> Res Out
 | [], env, h => .ok ⟨.nx, env⟩ h
 | s :: ss, env, h => match exec fuel s env h with
  | .ok ⟨.nx, env'⟩ h' => execs fuel ss env' h'
  | r => r
def raise1 (fuel : Nat) : S -> Env -> Hh -> Res Out
 | .raise C e, env, h => match ev cl call e env h with
  | .ok r h1 => .ok ⟨.rt (.loc h1.length), env⟩ (h1 ++ [.exc C r])
  | _ => .no
 | .exp e, env, h => raiseE cl call e env h
 | .ret e, env, h => raiseE cl call e env h
 | .ifs c a b, env, h => match ev cl call c env h with
  | .ok (.w (.bl true)) h' => raises fuel a env h'
  | .ok (.w (.bl false)) h' => raises fuel b env h'
  | _ => .no
 | _, _, _ => .no
def raises (fuel : Nat) : List S -> Env -> Hh -> Res Out
 | [], _, _ => .no
 | s :: ss, env, h => match raise1 fuel s env h with
  | .ok o h' => .ok o h'
  | _ => match exec fuel s env h with
   | .ok ⟨.nx, env'⟩ h' => raises fuel ss env' h'
   | _ => .no
end
end
structure Fd where
 np : Nat
 ns : Nat
 body : List S
 rb : List S
def hand : List R -> Hh -> Nat -> Option (List Nat × List R × Hh)
 | [], _, _ => some ([], [], [])
 | .w w :: rs, h, n => match hand rs h n with
  | some (ls, as, os) => some (ls, .w w :: as, os)
  | none => none
 | .loc l :: rs, h, n => match h[l]? with
  | some o => if flatO o then match hand rs h (n + 1) with
    | some (ls, as, os) => if ls.contains l then none else some (l :: ls, .loc n :: as, o :: os)
    | none => none
   else none
  | none => none
def putBack : List Nat -> Hh -> Hh -> Hh
 | l :: ls, o :: os, h => putBack ls os (h.set l o)
 | _, _, h => h
def runFd (cl : Cls) (call : Call) (fuel : Nat) (fd : Fd) (as : List R) (h : Hh) : Res R :=
 if as.length = fd.np then match execs cl call fuel fd.body (as.map some ++ List.replicate (fd.ns - fd.np) none) h with
  | .ok ⟨.nx, _⟩ h' => .ok (.w .non) h'
  | .ok ⟨.rt r, _⟩ h' => .ok r h'
  | .ok ⟨.bk, _⟩ _ => .no
  | .ex C v => .ex C v
  | .no => .no
 else .no
def runXd (cl : Cls) (call : Call) (fuel : Nat) (fd : Fd) (as : List R) (h : Hh) : Res R :=
 if as.length = fd.np then match raises cl call fuel fd.rb (as.map some ++ List.replicate (fd.ns - fd.np) none) h with
  | .ok ⟨.rt r, _⟩ h' => .ok r h'
  | _ => .no
 else .no
def after (ls : List Nat) (h : Hh) (x : Res R) : Res R := match x with
 | .ok r h' => if (h'.take ls.length).all flatO then match fz h' ls.length 20 r with
   | some w => .ok (.w w) (putBack ls (h'.take ls.length) h)
   | none => .no
  else .no
 | .ex C v => if ls = [] then .ex C v else .no
 | .no => .no
def afterK (ls : List Nat) (h : Hh) (x : Res R) : Res R := match x with
 | .ok (.loc l) h' => if (h'.take ls.length).all flatO && Nat.ble ls.length l then match h'[l]? with
   | some o => if flatO o then let h2 := putBack ls (h'.take ls.length) h; .ok (.loc h2.length) (h2 ++ [o]) else .no
   | none => .no
  else .no
 | _ => .no
def afterD (ls : List Nat) (h : Hh) (x : Res R) : Res R := match x with
 | .ok (.loc l) h' => if (h'.take ls.length).all flatO && Nat.ble ls.length l then match shOs ls.length h.length (h'.drop ls.length) with
   | some os => .ok (.loc (l - ls.length + h.length)) (putBack ls (h'.take ls.length) h ++ os)
   | none => .no
  else .no
 | .ok (.w w) h' => if (h'.take ls.length).all flatO then .ok (.w w) (putBack ls (h'.take ls.length) h) else .no
 | _ => .no
def ixF (ix : List Nat) (m k : Nat) : Option Nat := if ix.idxOf k < ix.length then some (m + ix.idxOf k) else none
def shFR (f : Nat -> Option Nat) : R -> Option R
 | .w w => some (.w w)
 | .loc k => (f k).map .loc
def shFRs (f : Nat -> Option Nat) : List R -> Option (List R)
 | [] => some []
 | r :: rs => match shFR f r, shFRs f rs with
  | some r', some rs' => some (r' :: rs')
  | _, _ => none
def shFO (f : Nat -> Option Nat) : O -> Option O
 | .lst rs => (shFRs f rs).map .lst
 | .dct ks vs => (shFRs f vs).map (.dct ks)
 | .ins c ns vs => (shFRs f vs).map (.ins c ns)
 | .tup rs => (shFRs f rs).map .tup
 | .exc c r => (shFR f r).map (.exc c)
 | .dead => none
def shFOs (f : Nat -> Option Nat) (h : Hh) : List Nat -> Option Hh
 | [] => some []
 | k :: ks => match h[k]? with
  | some o => match shFO f o, shFOs f h ks with
   | some o', some os => some (o' :: os)
   | _, _ => none
  | none => none
def nodupB : List Nat -> Bool
 | [] => true
 | k :: ks => !ks.contains k && nodupB ks
def afterQ (ls : List Nat) (h : Hh) (x : Res R) : Res R := match x with
 | .ok (.loc l) h' => if (h'.take ls.length).all flatO && ((reach h' 20 (.loc l)).all (Nat.ble ls.length) && nodupB (reach h' 20 (.loc l))) then match shFOs (ixF (reach h' 20 (.loc l)) h.length) h' (reach h' 20 (.loc l)) with
   | some os => .ok (.loc h.length) (putBack ls (h'.take ls.length) h ++ os)
   | none => .no
  else .no
 | .ok (.w w) h' => if (h'.take ls.length).all flatO then .ok (.w w) (putBack ls (h'.take ls.length) h) else .no
 | _ => .no
def runBy (cl : Cls) (fuel : Nat) (fd : Fd) (call : Call) (m : Md) (rs : List R) (h : Hh) : Res R := match m with
 | .pu => match hand rs h 0 with
  | some (ls, as, os) => after ls h (runFd cl call fuel fd as os)
  | none => .no
 | .kp => match hand rs h 0 with
  | some (ls, as, os) => afterK ls h (runFd cl call fuel fd as os)
  | none => .no
 | .kd => match hand rs h 0 with
  | some (ls, as, os) => afterD ls h (runFd cl call fuel fd as os)
  | none => .no
 | .hp => runFd cl call fuel fd rs h
 | .xr => runXd cl call fuel fd rs h
 | .kq => match hand rs h 0 with
  | some (ls, as, os) => afterQ ls h (runFd cl call fuel fd as os)
  | none => .no
 | .mk C => match allW rs with
  | some _ => match runFd cl call fuel fd (.loc 0 :: rs) [.ins C [] []] with
   | .ok (.w .non) h' => match fz h' 0 20 (.loc 0) with
    | some w => .ok (.w w) h
    | none => .no
   | .ex C v => .ex C v
   | _ => .no
  | none => .no
def callN (cl : Cls) (fds : List Fd) (fuel : Nat) : Nat -> Call
 | 0, _, _, _, _ => .no
 | d + 1, m, f, rs, h => match fds[f]? with
  | none => .no
  | some fd => runBy cl fuel fd (callN cl fds fuel d) m rs h
end Tf
namespace Tf
open PySem L2 PyProof.Rows
def SqN (H : Hp) (a : Addr) (xs : List V) : Prop := ∃ o, H a = some (.frz o (.tup xs)) ∧ o.dict = none
theorem SqN.t {K : PySem.W.Frag} {H : Hp} {a : Addr} {xs : List V} (s : SqN H a xs) : SqT K H a xs := let ⟨o, e, _⟩ := s; .inl (.inr ⟨o, e⟩)
def tob (us : List Value) : Obj := { cls := .type "tuple", data := .seq us.toArray }
def TupNew (Q : VK) (H : Hp) (ys : List V) : Prop := ∀ p o, H p = none -> o.dict = none -> Q (.ref p) (upd H p (.frz o (.tup ys)))
section
variable {X : Cx} {pins : List (Addr × Obj)} {σ : L2.St} {H : Hp} {s : Shared}
theorem frz_ok {h : Heap} {ys : List V} {us : List Value} {G : Hp} (hz : ys.length <= sizeLine) (rel : Vals ys us) : ObjOk X.prog X.w G (h.push (tob us)) h.objs.size (.frz (tob us) (.tup ys)) :=
 ⟨Heap.get?_push_size _ rfl, hz, us, rel, IsTup.new h us.toArray⟩
theorem tup_end {ys : List V} {us : List Value} {Q : VK} (I : Inv X pins σ H s) (hz : ys.length <= sizeLine) (rel : Vals ys us) (q : TupNew Q H ys) : EP X pins σ Q (.ref s.heap.objs.size) { s with heap := s.heap.push (tob us) } :=
 ⟨.ref s.heap.objs.size, upd H s.heap.objs.size (.frz (tob us) (.tup ys)), I.laid (t' := s.toks) (fun _ _ z => Heap.get?_push_of_some _ z) (Nat.le_refl _) (frz_ok hz rel), rfl, q _ _ (I.hok.fresh (Nat.le_refl _)) rfl⟩
theorem n_tup {es : List Expr} {t : TA} {k : Nat} {pos : Pos} (pa : PA X es t) : PE X (.Tuple es k pos) (fun σ H Q => t σ H fun ys G => ys.length <= sizeLine ∧ TupNew Q G ys) :=
 ⟨fun pins s σ H Q I z => wpAny_Tuple_spliced (thn (pa.run pos pins s σ H _ I z) fun us s2 ⟨ys, G, J, rel, hz, q⟩ => ⟨by rw [<- rel.length]; exact hz, tup_end J hz rel q⟩)⟩
theorem n_cat : OpR X (binaryOp .Add) (fun x y H Q => ∃ a b xs ys, x = .ref a ∧ y = .ref b ∧ SqT X.K H a xs ∧ SqT X.K H b ys ∧ xs.length + ys.length <= sizeLine ∧ (xs = [] -> Q (.ref b) H) ∧ (xs ≠ [] -> ys = [] -> Q (.ref a) H) ∧ (xs ≠ [] -> ys ≠ [] -> TupNew Q H (xs ++ ys))) := by
 rintro pins s σ H x y v u Q I rx ry ⟨a, b, xs, ys, rfl, rfl, sa, sb, hz, k0, k1, k2⟩
 by_cases e1 : xs = []
 ·exact op_catA pins s σ H _ _ v u Q I rx ry ⟨a, b, xs, ys, rfl, rfl, sa, sb, hz, k0, k1, fun n => absurd e1 n⟩
 ·obtain ⟨us, r1, t1, _⟩ := I.tuple sa
  obtain ⟨ws, r2, t2, _⟩ := I.tuple sb
  cases (show v = Value.ref a from rx)
  cases (show u = Value.ref b from ry)
  refine HT.cat_tup t1 t2 (fun z => e1 (r1.nil_iff.mp z)) (fun z => ⟨.ref a, H, I, rfl, k1 e1 (r2.nil_iff.mp z)⟩) (fun z => ?_) (by rw [<- r1.length, <- r2.length]; exact hz)
  exact tup_end I (by rw [List.length_append]; exact hz) (r1.append r2) (k2 e1 fun n => z (r2.nil_iff.mpr n))
theorem n_tupleOf : CallR X (.type "tuple") (fun xs H Q => ∃ p ys, xs = [.ref p] ∧ ((SqL X.K H p ys ∧ TupNew Q H ys) ∨ (SqT X.K H p ys ∧ Q (.ref p) H))) := by
 rintro pins s σ H xs us Q I r ⟨p, ys, rfl, k⟩
 rcases k with ⟨sl, q⟩ | ⟨st, q⟩
 ·obtain ⟨u, rfl, ru⟩ := vals1 r
  cases (show u = Value.ref p from ru)
  obtain ⟨its, rel, pl, hz⟩ := I.list sl
  have hn := rel.length
  refine call_tuple_list pl.isList (fun g kp => ?_) (by simp only [List.size_toArray] <;> omega)
  exact tup_end (s := { s with heap := g }) (I.kept (t' := s.toks) kp) hz rel q
 ·exact call_tuple_of pins s σ H _ us Q I r ⟨p, ys, rfl, .inr ⟨st, q⟩⟩
end
end Tf
namespace TfD
open PySem
structure Keyed (w : World) (h : Heap) (es : Array DictEntry) (xs : List NestedKey) : Prop where
 len : xs.length = es.size
 at_ : ∀ (j : Nat) (e : DictEntry) (x : NestedKey), es[j]? = some e -> xs[j]? = some x -> e.hash = x.hash w ∧ NestedIs h x e.key ∧ x.depth <= 8
 nd : xs.Nodup
def Told (xs : List NestedKey) (k : NestedKey) (r : Option Nat) : Prop := (r = none ∧ k ∉ xs) ∨ ∃ j, r = some j ∧ xs[j]? = some k
theorem Keyed.get {w : World} {h : Heap} {es : Array DictEntry} {xs : List NestedKey} (K : Keyed w h es xs) {j : Nat} {e : DictEntry} (he : es[j]? = some e) : ∃ x, xs[j]? = some x := by
 have hj : j < es.size := by
  grind
 exact ⟨xs[j]'(by rw [K.len]; exact hj), List.getElem?_eq_getElem _⟩
theorem Keyed.ent {w : World} {h : Heap} {es : Array DictEntry} {xs : List NestedKey} (K : Keyed w h es xs) {j : Nat} {x : NestedKey} (hx : xs[j]? = some x) : ∃ e, es[j]? = some e := by
 have hj : j < es.size := by rw [<- K.len]; exact (List.getElem?_eq_some_iff.mp hx).1
 simp_all
theorem nodup_at {α : Type} {xs : List α} (hn : xs.Nodup) {i j : Nat} {x : α} (a : xs[i]? = some x) (b : xs[j]? = some x) : i = j :=
 (List.getElem?_inj (List.getElem?_eq_some_iff.mp a).1 hn).mp (a.trans b.symm)
section
variable {prog : Program} {w : World} {A : Around} {E : Value -> Shared -> Prop} {s : Shared}
theorem tells_no {v : Value} {k : NestedKey} {stored : List Value} {Q : Bool -> Shared -> Prop} (hk : NestedIs s.heap k v ∧ k.depth <= 8) (hs : ∀ u ∈ stored, ∃ x, NestedIs s.heap x u ∧ x.depth <= 8) (q : Q false s) :
  wpAny (model prog w) A (tableMayTell v stored) Q E s := by
 unfold tableMayTell
 split
 ·exact wpAny_pure q
 ·refine wpAny_bind (quiet_key k v 8 s hk.1 hk.2 A E _ ?_)
  refine wpAny_bind (wpAny_forIn_list _ (fun l r s' => (s' = s ∧ r = (none, ())) ∧ ∀ u ∈ l, ∃ x, NestedIs s.heap x u ∧ x.depth <= 8) _ ?_ ?_ _ _ ⟨⟨rfl, rfl⟩, hs⟩)
  ·rintro u l r s' ⟨⟨rfl, rfl⟩, hl⟩
   obtain ⟨x, hx, hd⟩ := hl u (List.mem_cons_self ..)
   refine wpAny_bind (quiet_key x u 8 s' hx hd A E _ ?_)
   exact wpAny_pure ⟨⟨rfl, rfl⟩, fun z hz => hl z (List.mem_cons_of_mem _ hz)⟩
  ·rintro r s' ⟨⟨rfl, rfl⟩, _⟩
   exact wpAny_pure q
theorem cmp_keys {x k : NestedKey} {u v : Value} {Q : Bool -> Shared -> Prop} (hu : A.units + 8 < cLine) (hx : NestedIs s.heap x u) (hd : x.depth <= 8) (hk : NestedIs s.heap k v) (q : Q (decide (x = k)) s) : wpAny (model prog w) A (eqBool u v) Q E s :=
 eqAt_key x k A s u v hx hk (by omega) prog w E Q (by rw [<- NestedKey.decide_eq]; exact q)
variable {d : Addr} {o : Obj} {es : Array DictEntry} {ep : Nat} {xs : List NestedKey} {k : NestedKey} {v : Value} {Q : Option Nat -> Shared -> Prop}
theorem in_places {h : Int} {i : Nat} (hi : i ∈ placesWithHash es.size (fun i => es[i]?.map (·.hash)) h) : ∃ e, es[i]? = some e ∧ e.hash = h := by
 obtain ⟨h1, h2⟩ := List.mem_filter.mp hi
 simp_all
theorem of_places (K : Keyed w s.heap es xs) {j : Nat} (hj : xs[j]? = some k) : j ∈ placesWithHash es.size (fun i => es[i]?.map (·.hash)) (k.hash w) := by
 obtain ⟨e, he⟩ := K.ent hj
 refine List.mem_filter.mpr ⟨List.mem_range.mpr ?_, ?_⟩
 ·grind
 ·show ((es[j]?.map (·.hash)) == some (k.hash w)) = true
  rw [he]
  show (some e.hash == some (k.hash w)) = true
  rw [(K.at_ j e k he hj).1]
  simp_all
theorem places_nd (h : Int) : (placesWithHash es.size (fun i => es[i]?.map (·.hash)) h).Nodup := List.Nodup.sublist List.filter_sublist List.nodup_range
theorem walk_plain (hu : A.units + 8 < cLine) (hk : NestedIs s.heap k v ∧ k.depth <= 8) (ho : s.heap.get? d = some o) (hd : o.data = .dict es ep) (K : Keyed w s.heap es xs) (q : ∀ r, Told xs k r -> Q r s) :
  wpAny (model prog w) A (dictWalkPlain d v (k.hash w) es (placesWithHash es.size (fun i => es[i]?.map (·.hash)) (k.hash w))) Q E s := by
 refine wpAny_bind (wpAny_forIn_list _ (fun l r s' => (s' = s ∧ r = (none, ())) ∧ ∃ done, placesWithHash es.size (fun i => es[i]?.map (·.hash)) (k.hash w) = done ++ l ∧ ∀ i ∈ done, xs[i]? ≠ some k) _ ?_ ?_ _ _ ⟨⟨rfl, rfl⟩, [], rfl, fun i hi => nomatch hi⟩)
 ·rintro i l r s' ⟨⟨rfl, rfl⟩, done, hp, hn⟩
  obtain ⟨e, he, hh⟩ := in_places (es := es) (h := k.hash w) (i := i) (by rw [hp]; simp)
  obtain ⟨x, hx⟩ := K.get he
  obtain ⟨_, k1, k2⟩ := K.at_ i e x he hx
  rw [he]
  dsimp only
  rw [if_pos (by rw [hh]; exact beq_self_eq_true _)]
  refine wpAny_bind (wpAny_dictEpoch ho hd (wpAny_bind (cmp_keys hu k1 k2 hk.1 (wpAny_bind (wpAny_dictEpoch ho hd ?_)))))
  rw [if_neg (by simp)]
  by_cases hxk : x = k
  ·subst hxk
   rw [decide_eq_true rfl]
   exact wpAny_bind (wpAny_rule (wpAny_pure (wpAny_pure (q _ (.inr ⟨i, rfl, hx⟩)))))
  ·rw [decide_eq_false hxk]
   refine wpAny_bind (wpAny_rule (wpAny_pure ⟨⟨rfl, rfl⟩, done ++ [i], by rw [hp]; simp, fun j hj => ?_⟩))
   rcases List.mem_append.mp hj with hj | hj <;> simp_all
 ·rintro r s' ⟨⟨rfl, rfl⟩, done, hp, hn⟩
  refine wpAny_pure (q none (.inl ⟨rfl, fun hm => ?_⟩))
  obtain ⟨j, hj⟩ := List.mem_iff_getElem?.mp hm
  have := of_places K hj
  simp_all
theorem walk_all {F : Nat -> (Option (Option Nat) × Option Nat) -> Sem (ForInStep ((Option (Option Nat) × Option Nat)))} {G : (Option (Option Nat) × Option Nat) -> Sem (Option Nat)} (K : Keyed w s.heap es xs) (q : ∀ r, Told xs k r -> Q r s)
  (turn : ∀ (i : Nat) (e : DictEntry) (x : NestedKey) (hit : Option Nat) (R : ForInStep ((Option (Option Nat) × Option Nat)) -> Shared -> Prop), es[i]? = some e -> e.hash = k.hash w -> xs[i]? = some x -> NestedIs s.heap x e.key -> x.depth <= 8 -> (x = k -> hit = none) ->
   (x = k -> R (.done ⟨some (some i), hit⟩) s ∧ R (.yield ⟨none, some i⟩) s) -> (x ≠ k -> R (.yield ⟨none, hit⟩) s) -> wpAny (model prog w) A (F i ⟨none, hit⟩) R E s)
  (fin1 : ∀ r hit, Q r s -> wpAny (model prog w) A (G ⟨some r, hit⟩) Q E s) (fin0 : ∀ hit, Q hit s -> wpAny (model prog w) A (G ⟨none, hit⟩) Q E s) :
  wpAny (model prog w) A ((forIn (placesWithHash es.size (fun i => es[i]?.map (·.hash)) (k.hash w)) (none, none) F) >>= G) Q E s := by
 refine wpAny_bind (wpAny_forIn_list _ (fun l r s' => s' = s ∧ ∃ hit done, r = ⟨none, hit⟩ ∧ placesWithHash es.size (fun i => es[i]?.map (·.hash)) (k.hash w) = done ++ l ∧
  ((hit = none ∧ ∀ i ∈ done, xs[i]? ≠ some k) ∨ ∃ j ∈ done, hit = some j ∧ xs[j]? = some k)) _ ?_ ?_ _ _ ⟨rfl, none, [], rfl, rfl, .inl ⟨rfl, fun i hi => nomatch hi⟩⟩)
 ·rintro i l r s' ⟨rfl, hit, done, rfl, hp, hn⟩
  obtain ⟨e, he, hh⟩ := in_places (es := es) (h := k.hash w) (i := i) (by rw [hp]; simp)
  obtain ⟨x, hx⟩ := K.get he
  obtain ⟨_, k1, k2⟩ := K.at_ i e x he hx
  have nin : i ∉ done := by
   have := places_nd (es := es) (k.hash w)
   rw [hp] at this
   intro hm
   exact (List.nodup_append.mp this).2.2 i hm i (by simp) rfl
  refine turn i e x hit _ he hh hx k1 k2 (fun z => ?_) (fun z => ?_) fun z => ?_
  ·rcases hn with ⟨h0, _⟩ | ⟨j, hj, _, hxj⟩
   ·omega
   ·rw [z] at hx
    exact absurd (nodup_at K.nd hx hxj ▸ hj) nin
  ·subst z
   exact ⟨fin1 _ _ (q _ (.inr ⟨i, rfl, hx⟩)), rfl, some i, done ++ [i], rfl, by rw [hp]; simp, .inr ⟨i, by simp, rfl, hx⟩⟩
  ·refine ⟨rfl, hit, done ++ [i], rfl, by rw [hp]; simp, ?_⟩
   rcases hn with ⟨h0, h1⟩ | ⟨j, hj, h1, hxj⟩
   ·refine .inl ⟨h0, fun j hj => ?_⟩
    rcases List.mem_append.mp hj with hj | hj <;> grind
   ·exact .inr ⟨j, List.mem_append_left _ hj, h1, hxj⟩
 ·rintro r s' ⟨rfl, hit, done, rfl, hp, hn⟩
  refine fin0 hit (q hit ?_)
  rcases hn with ⟨h0, h1⟩ | ⟨j, hj, h1, hxj⟩
  ·refine .inl ⟨h0, fun hm => ?_⟩
   obtain ⟨j, hj⟩ := List.mem_iff_getElem?.mp hm
   have := of_places K hj
   grind
  ·exact .inr ⟨j, h1, hxj⟩
theorem find_nk (hu : A.units + 8 < cLine) (hk : NestedIs s.heap k v ∧ k.depth <= 8) (ho : s.heap.get? d = some o) (hd : o.data = .dict es ep) (K : Keyed w s.heap es xs) (q : ∀ r, Told xs k r -> Q r s) :
  wpAny (model prog w) A (dictFind d v (k.hash w)) Q E s := by
 have stored : ∀ u ∈ (placesWithHash es.size (fun i => es[i]?.map (·.hash)) (k.hash w)).filterMap (fun i => es[i]?.map (·.key)), ∃ x, NestedIs s.heap x u ∧ x.depth <= 8 := by
  intro u hm
  obtain ⟨i, _, hi⟩ := List.mem_filterMap.mp hm
  cases he : es[i]? with
  | none => rw [he] at hi; cases hi
  | some e =>
   rw [he] at hi
   obtain ⟨x, hx⟩ := K.get he
   obtain ⟨_, k1, k2⟩ := K.at_ i e x he hx
   have : e.key = u := Option.some.inj hi
   rw [<- this]
   exact ⟨x, k1, k2⟩
 refine wpAny_holding ?_
 refine wpAny_bind (wpAny_dictEntries ho hd ?_)
 have texts : ∀ (x : Str) (t : Tok), v = .str x t -> (es.all fun e => isExactStrKey e.key) = true -> wpAny (model prog w) A (foundByValue d (.str x t) es x) Q E s := by
  intro x t hv hall
  subst hv
  have hkx : k = .text x := by
   have := hk.1
   cases this
   rfl
  subst hkx
  unfold foundByValue
  cases hf : es.findIdx? (fun e => e.key.isStr x) with
  | none =>
   refine wpAny_pure (q none (.inl ⟨rfl, fun hm => ?_⟩))
   obtain ⟨j, hj⟩ := List.mem_iff_getElem?.mp hm
   obtain ⟨e, he⟩ := K.ent hj
   obtain ⟨_, k1, _⟩ := K.at_ j e _ he hj
   have he' : e ∈ es := Array.mem_of_getElem? he
   have h2 := Array.findIdx?_eq_none_iff.mp hf e he'
   cases hkk : e.key <;> rw [hkk] at k1 <;> cases k1
   rw [hkk] at h2
   simp [Value.isStr] at h2
  | some i =>
   dsimp only
   obtain ⟨hi, hpi, _⟩ := Array.findIdx?_eq_some_iff_getElem.mp hf
   have he : es[i]? = some es[i] := Array.getElem?_eq_getElem hi
   rw [he]
   obtain ⟨y, hy⟩ := K.get he
   obtain ⟨_, k1, k2⟩ := K.at_ i _ y he hy
   have hyx : y = .text x := by
    cases hkk : es[i].key with
    | str z t' =>
     rw [hkk] at k1 hpi
     cases k1
     have : z = x := by simpa [Value.isStr] using hpi
     rw [this]
    | _ => rw [hkk] at hpi; simp [Value.isStr] at hpi
   subst hyx
   refine wpAny_bind (wpAny_dictEpoch ho hd (wpAny_bind (cmp_keys hu k1 k2 hk.1 (wpAny_bind (wpAny_dictEpoch ho hd ?_)))))
   rw [if_neg (by simp), decide_eq_true rfl]
   exact wpAny_bind (wpAny_rule (wpAny_pure (q _ (.inr ⟨i, rfl, hy⟩))))
 have hk1 := hk.1
 cases hk1
 all_goals dsimp only
 case text x t =>
  by_cases hall : (es.all fun e => isExactStrKey e.key) = true
  ·rw [if_pos hall]
   exact texts x t rfl hall
  ·rw [if_neg hall]
   by_cases hc : (Value.str x t :: (placesWithHash es.size (fun i => es[i]?.map (·.hash)) (NestedKey.hash w (.text x))).filterMap (fun i => es[i]?.map (·.key))).all carriedByValue = true
   ·rw [if_pos hc]
    exact walk_plain hu hk ho hd K q
   ·rw [if_neg hc]
    by_cases hone : ((placesWithHash es.size (fun i => es[i]?.map (·.hash)) (NestedKey.hash w (.text x))).filterMap (fun i => es[i]?.map (·.key)) == [Value.str x t]) = true
    all_goals first | rw [if_pos hone] | rw [if_neg hone]
    all_goals
     first
      | refine wpAny_bind (wpAny_pure ?_)
      | refine wpAny_bind (tells_no hk stored ?_)
     refine walk_all K q (fun i e y hit R he hh hy k1 k2 h0 r1 r2 => ?_) (fun r hit z => wpAny_pure z) fun hit z => wpAny_pure z
     rw [he]
     dsimp only
     rw [if_pos (by rw [hh]; exact beq_self_eq_true _)]
     refine wpAny_bind (wpAny_dictEpoch ho hd (wpAny_bind (cmp_keys hu k1 k2 hk.1 (wpAny_bind (wpAny_dictEpoch ho hd ?_)))))
     rw [if_neg (by simp)]
     by_cases hyk : y = .text x
     ·rw [decide_eq_true hyk]
      obtain ⟨q1, q2⟩ := r1 hyk
      have h1 := h0 hyk
      subst h1
      refine wpAny_bind (wpAny_rule ?_)
      split
      ·exact wpAny_pure q1
      ·exact wpAny_pure q2
     ·rw [decide_eq_false hyk]
      refine wpAny_bind (wpAny_rule ?_)
      exact wpAny_pure (r2 hyk)
 case none =>
  by_cases hc : (Value.none :: (placesWithHash es.size (fun i => es[i]?.map (·.hash)) (NestedKey.hash w .none)).filterMap (fun i => es[i]?.map (·.key))).all carriedByValue = true
  ·rw [if_pos hc]
   exact walk_plain hu hk ho hd K q
  ·rw [if_neg hc]
   by_cases hone : ((placesWithHash es.size (fun i => es[i]?.map (·.hash)) (NestedKey.hash w .none)).filterMap (fun i => es[i]?.map (·.key)) == [Value.none]) = true
   all_goals first | rw [if_pos hone] | rw [if_neg hone]
   all_goals
    first
     | refine wpAny_bind (wpAny_pure ?_)
     | refine wpAny_bind (tells_no hk stored ?_)
    refine walk_all K q (fun i e y hit R he hh hy k1 k2 h0 r1 r2 => ?_) (fun r hit z => wpAny_pure z) fun hit z => wpAny_pure z
    rw [he]
    dsimp only
    rw [if_pos (by rw [hh]; exact beq_self_eq_true _)]
    refine wpAny_bind (wpAny_dictEpoch ho hd (wpAny_bind (cmp_keys hu k1 k2 hk.1 (wpAny_bind (wpAny_dictEpoch ho hd ?_)))))
    rw [if_neg (by simp)]
    by_cases hyk : y = .none
    ·rw [decide_eq_true hyk]
     obtain ⟨q1, q2⟩ := r1 hyk
     have h1 := h0 hyk
     subst h1
     refine wpAny_bind (wpAny_rule ?_)
     split
     ·exact wpAny_pure q1
     ·exact wpAny_pure q2
    ·rw [decide_eq_false hyk]
     refine wpAny_bind (wpAny_rule ?_)
     exact wpAny_pure (r2 hyk)
 case bool b iv hb =>
  by_cases hc : (Value.bool b :: (placesWithHash es.size (fun i => es[i]?.map (·.hash)) (NestedKey.hash w (.num iv))).filterMap (fun i => es[i]?.map (·.key))).all carriedByValue = true
  ·rw [if_pos hc]
   exact walk_plain hu hk ho hd K q
  ·rw [if_neg hc]
   by_cases hone : ((placesWithHash es.size (fun i => es[i]?.map (·.hash)) (NestedKey.hash w (.num iv))).filterMap (fun i => es[i]?.map (·.key)) == [Value.bool b]) = true
   all_goals first | rw [if_pos hone] | rw [if_neg hone]
   all_goals
    first
     | refine wpAny_bind (wpAny_pure ?_)
     | refine wpAny_bind (tells_no hk stored ?_)
    refine walk_all K q (fun i e y hit R he hh hy k1 k2 h0 r1 r2 => ?_) (fun r hit z => wpAny_pure z) fun hit z => wpAny_pure z
    rw [he]
    dsimp only
    rw [if_pos (by rw [hh]; exact beq_self_eq_true _)]
    refine wpAny_bind (wpAny_dictEpoch ho hd (wpAny_bind (cmp_keys hu k1 k2 hk.1 (wpAny_bind (wpAny_dictEpoch ho hd ?_)))))
    rw [if_neg (by simp)]
    by_cases hyk : y = (.num iv)
    ·rw [decide_eq_true hyk]
     obtain ⟨q1, q2⟩ := r1 hyk
     have h1 := h0 hyk
     subst h1
     refine wpAny_bind (wpAny_rule ?_)
     split
     ·exact wpAny_pure q1
     ·exact wpAny_pure q2
    ·rw [decide_eq_false hyk]
     refine wpAny_bind (wpAny_rule ?_)
     exact wpAny_pure (r2 hyk)
 case int iv t =>
  by_cases hc : (Value.int iv t :: (placesWithHash es.size (fun i => es[i]?.map (·.hash)) (NestedKey.hash w (.num iv))).filterMap (fun i => es[i]?.map (·.key))).all carriedByValue = true
  ·rw [if_pos hc]
   exact walk_plain hu hk ho hd K q
  ·rw [if_neg hc]
   by_cases hone : ((placesWithHash es.size (fun i => es[i]?.map (·.hash)) (NestedKey.hash w (.num iv))).filterMap (fun i => es[i]?.map (·.key)) == [Value.int iv t]) = true
   all_goals first | rw [if_pos hone] | rw [if_neg hone]
   all_goals
    first
     | refine wpAny_bind (wpAny_pure ?_)
     | refine wpAny_bind (tells_no hk stored ?_)
    refine walk_all K q (fun i e y hit R he hh hy k1 k2 h0 r1 r2 => ?_) (fun r hit z => wpAny_pure z) fun hit z => wpAny_pure z
    rw [he]
    dsimp only
    rw [if_pos (by rw [hh]; exact beq_self_eq_true _)]
    refine wpAny_bind (wpAny_dictEpoch ho hd (wpAny_bind (cmp_keys hu k1 k2 hk.1 (wpAny_bind (wpAny_dictEpoch ho hd ?_)))))
    rw [if_neg (by simp)]
    by_cases hyk : y = (.num iv)
    ·rw [decide_eq_true hyk]
     obtain ⟨q1, q2⟩ := r1 hyk
     have h1 := h0 hyk
     subst h1
     refine wpAny_bind (wpAny_rule ?_)
     split
     ·exact wpAny_pure q1
     ·exact wpAny_pure q2
    ·rw [decide_eq_false hyk]
     refine wpAny_bind (wpAny_rule ?_)
     exact wpAny_pure (r2 hyk)
 case tup a ob vs n ks h1 h2 h3 h4 =>
  have hany : ¬ (es.any fun e => e.key == Value.ref a && e.hash != NestedKey.hash w (.tup ks)) = true := by
   intro hc
   rw [<- Array.any_toList, List.any_eq_true] at hc
   obtain ⟨e, hm, hc⟩ := hc
   obtain ⟨j, hj⟩ := List.mem_iff_getElem?.mp hm
   rw [Array.getElem?_toList] at hj
   obtain ⟨y, hy⟩ := K.get hj
   obtain ⟨k0, k1, k2⟩ := K.at_ j e y hj hy
   have e1 : e.key = Value.ref a := by grind
   rw [e1] at k1
   have e2 := NestedIs.inj _ _ _ k1 hk.1
   simp_all
  by_cases hc : (Value.ref a :: (placesWithHash es.size (fun i => es[i]?.map (·.hash)) (NestedKey.hash w (.tup ks))).filterMap (fun i => es[i]?.map (·.key))).all carriedByValue = true
  ·rw [if_pos hc]
   exact walk_plain hu hk ho hd K q
  ·rw [if_neg hany]
   by_cases hone : ((placesWithHash es.size (fun i => es[i]?.map (·.hash)) (NestedKey.hash w (.tup ks))).filterMap (fun i => es[i]?.map (·.key)) == [Value.ref a]) = true
   all_goals first | rw [if_pos hone] | rw [if_neg hone]
   all_goals
    first
     | refine wpAny_bind (wpAny_pure ?_)
     | refine wpAny_bind (tells_no hk stored ?_)
    rw [Bool.false_and]
    refine walk_all K q (fun i e y hit R he hh hy k1 k2 h0 r1 r2 => ?_) (fun r hit z => wpAny_pure z) fun hit z => wpAny_pure z
    rw [he]
    dsimp only
    rw [if_pos (by rw [hh]; exact beq_self_eq_true _)]
    refine wpAny_bind (wpAny_dictEpoch ho hd (wpAny_bind (cmp_keys hu k1 k2 hk.1 (wpAny_bind (wpAny_dictEpoch ho hd ?_)))))
    rw [if_neg (by simp)]
    by_cases hyk : y = (.tup ks)
    ·rw [decide_eq_true hyk]
     obtain ⟨q1, q2⟩ := r1 hyk
     have h1 := h0 hyk
     subst h1
     first | rw [if_pos rfl] | skip
     rw [if_neg (show ¬ (none : Option Nat).isSome = true from Bool.false_ne_true)]
     refine wpAny_bind (wpAny_rule ?_)
     split
     ·exact wpAny_pure q1
     ·exact wpAny_pure q2
    ·rw [decide_eq_false hyk]
     first | rw [if_neg (by decide)] | skip
     refine wpAny_bind (wpAny_rule ?_)
     rw [Bool.false_and]
     exact wpAny_pure (r2 hyk)
end
end TfD
namespace TfD
open PySem
structure DAt (w : World) (h : Heap) (d : Addr) (o : Obj) (es : Array DictEntry) (ep : Nat) (xs : List NestedKey) : Prop where
 at_ : h.get? d = some o
 ex : o.ExactDict
 data : o.data = .dict es ep
 sm : (d == sysModules) = false
 keys : Keyed w h es xs
theorem DAt.typeIs {w : World} {s : Shared} {d : Addr} {o : Obj} {es : Array DictEntry} {ep : Nat} {xs : List NestedKey} (D : DAt w s.heap d o es ep xs) : s.TypeIs (.ref d) "dict" := ⟨o, D.at_, D.ex.1⟩
section
variable {prog : Program} {w : World} {A : Around} {E : Value -> Shared -> Prop} {s : Shared} {d : Addr} {o : Obj} {es : Array DictEntry} {ep : Nat} {xs : List NestedKey} {k : NestedKey} {v : Value}
structure KeyV (h : Heap) (k : NestedKey) (v : Value) : Prop where
 is : NestedIs h k v
 dp : k.depth <= 8
theorem hash_nk {Q : Int -> Shared -> Prop} (hu : A.units + 8 < cLine) (hk : KeyV s.heap k v) (q : Q (k.hash w) { s with toks := s.toks + k.draws }) : wpAny (model prog w) A (pyHash v) Q E s :=
 pyHash_key k v A s Q hk.is (by have := hk.dp; omega) q
theorem get_nk {Q : Option Value -> Shared -> Prop} (hu : A.units + 8 < cLine) (hk : KeyV s.heap k v) (D : DAt w s.heap d o es ep xs)
  (q : ∀ r, Told xs k r -> Q (r.bind fun j => es[j]?.map (·.val)) { s with toks := s.toks + k.draws }) : wpAny (model prog w) A (dictGet d v) Q E s := by
 refine wpAny_holding (wpAny_bind (hash_nk hu hk (wpAny_bind (find_nk (s := { s with toks := s.toks + k.draws }) hu ⟨hk.is, hk.dp⟩ D.at_ D.data D.keys fun r hr => ?_))))
 cases r with
 | none => exact wpAny_pure (q none hr)
 | some j => exact wpAny_bind (wpAny_dictEntries (s := { s with toks := s.toks + k.draws }) D.at_ D.data (wpAny_pure (q (some j) hr)))
theorem item_nk {Q : Value -> Shared -> Prop} (hu : A.in1.units + 8 < cLine) (hk : KeyV s.heap k v) (D : DAt w s.heap d o es ep xs) (hin : k ∈ xs)
  (q : ∀ (j : Nat) (e : DictEntry), xs[j]? = some k -> es[j]? = some e -> Q e.val { s with toks := s.toks + k.draws }) : wpAny (model prog w) A (getItem (.ref d) v) Q E s := by
 refine wpAny_holding (wpAny_bind (wpAny_sequenceKey D.typeIs (by decide) ?_))
 refine wpAny_bind (wpAny_callSpecial?_slot (name := Str.ofString "__getitem__") D.typeIs slot_dict_getitem (wpAny_call_entry slot_dict_getitem D.typeIs entry_dict_getitem ?_ (args_dict_getitem _ _)))
 show wpAny _ _ (dictGet d v >>= _) _ _ s
 refine wpAny_bind (get_nk hu hk D fun r hr => ?_)
 rcases hr with ⟨_, hn⟩ | ⟨j, rfl, hj⟩
 ·simp_all
 ·obtain ⟨e, he⟩ := D.keys.ent hj
  have h2 : (some j).bind (fun j => es[j]?.map (·.val)) = some e.val := by simp_all
  rw [h2]
  exact wpAny_pure ⟨e.val, rfl, wpAny_pure (q j e hj he)⟩
def Stored (w : World) (d : Addr) (es : Array DictEntry) (xs : List NestedKey) (k : NestedKey) (key v : Value) (h h' : Heap) (r : Option Nat) : Prop :=
 (∀ b, b ≠ d -> h'.get? b = h.get? b) ∧ ∃ o' es' ep', h'.get? d = some o' ∧ o'.ExactDict ∧ o'.data = .dict es' ep' ∧
  (match r with
   | some j => es'.toList = es.toList.modify j fun e => { e with val := v }
   | none => es'.toList = es.toList ++ [⟨k.hash w, key, v⟩])
theorem set_nk {u : Value} {Q : Unit -> Shared -> Prop} (hu : A.units + 8 < cLine) (hk : KeyV s.heap k v) (D : DAt w s.heap d o es ep xs) (hz : es.size <= sizeLine)
  (q : ∀ r h', Told xs k r -> Stored w d es xs k v u s.heap h' r -> Q () { s with heap := h', toks := s.toks + k.draws }) : wpAny (model prog w) A (dictSet d v u) Q E s := by
 refine wpAny_holding (wpAny_bind (hash_nk hu hk ?_))
 refine wpAny_holding (wpAny_bind (find_nk (s := { s with toks := s.toks + k.draws }) hu ⟨hk.is, hk.dp⟩ D.at_ D.data D.keys fun r hr => ?_))
 cases r with
 | none =>
  refine wpAny_bind (wpAny_rule (wpAny_updateDictKeys (hz := hz) (s := { s with toks := s.toks + k.draws }) D.at_ D.data (q none _ hr ⟨fun b hb => ?_, _, _, ep + 1, Heap.get?_update_self _ D.at_ (Obj.isFreed_of_dict (Obj.data_mapDictKeys D.data _)), D.ex.mapDictKeys _, Obj.data_mapDictKeys D.data _, by simp⟩)))
  exact (Heap.SameBut.update ..).2 b hb
 | some j =>
  refine wpAny_bind (wpAny_rule (wpAny_bind (wpAny_updateDict (s := { s with toks := s.toks + k.draws }) D.at_ D.data (wpAny_point (q (some j) _ hr ⟨fun b hb => ?_, _, _, ep, Heap.get?_update_self _ D.at_ (Obj.isFreed_of_dict (Obj.data_mapDict D.data _)), D.ex.mapDict _, Obj.data_mapDict D.data _, by simp⟩)))))
  exact (Heap.SameBut.update ..).2 b hb
theorem setItem_nk {u : Value} {Q : Unit -> Shared -> Prop} (hu : A.in1.units + 8 < cLine) (hk : KeyV s.heap k v) (D : DAt w s.heap d o es ep xs) (hz : es.size <= sizeLine)
  (q : ∀ r h', Told xs k r -> Stored w d es xs k v u s.heap h' r -> Q () { s with heap := h', toks := s.toks + k.draws }) : wpAny (model prog w) A (setItem (.ref d) v u) Q E s := by
 refine wpAny_holding (wpAny_bind (wpAny_sequenceKey D.typeIs (by decide) ?_))
 refine wpAny_bind (wpAny_callSpecial?_slot (name := Str.ofString "__setitem__") D.typeIs slot_dict_setitem (wpAny_call_entry slot_dict_setitem D.typeIs entry_dict_setitem ?_ (args_dict_setitem _ _ _)))
 refine wpAny_bind (wpAny_notOrdered_dict D.typeIs ?_)
 show wpAny _ _ (dictSet d v u >>= _) _ _ s
 exact wpAny_bind (set_nk hu hk D hz fun r h' hr hs => wpAny_pure ⟨.none, rfl, wpAny_pure (q r h' hr hs)⟩)
theorem len_d {Q : Value -> Shared -> Prop} (D : DAt w s.heap d o es ep xs) (hz : es.size <= 2 ^ 24) (q : Q (.int es.size (s.toks + 1)) { s with toks := s.toks + 2 }) : wpAny (model prog w) A (call (.builtin "len") [.ref d]) Q E s := by
 refine Calls.call_function_entry kind_len plain_len entry_len (args_len1 _) ?_
 refine wpAny_bind (m := callSpecial? (.ref d) (Str.ofString "__len__")) (wpAny_callSpecial?_slot (name := Str.ofString "__len__") D.typeIs F.slot_dict_len (call_len_raw (es := es) (ep := ep) D.sm ⟨o, D.at_, D.ex, D.data⟩ ?_))
 refine wpAny_bind (wpAny_holding (wpAny_pure (wpAny_bind (wpAny_letGo ?_))))
 rw [if_neg (by omega), if_neg (by omega)]
 exact wpAny_bind (wpAny_mkInt (wpAny_pure ⟨_, rfl, q⟩))
end
end TfD
namespace Tf
open PySem L2 PyProof.Rows
def tx (x : Tx) : Str := ⟨x.toArray⟩
def nk : W -> NestedKey
 | .non => .none
 | .bl b => .num (if b = true then 1 else 0)
 | .int i => .num i
 | .str x => .text (tx x)
 | .tup ws => .tup (nks ws)
 | _ => .none
where nks : List W -> List NestedKey
 | [] => []
 | w :: ws => nk w :: nks ws
def LstK (K : PySem.W.Frag) (a : Addr) (xs : List V) : Prop :=
 ∃ (o : Obj) (its : Array Value) (n : Nat), K.lookup a = some o ∧ o.cls = .type "list" ∧ o.dict = none ∧ o.data = .seq its n ∧ its.size <= sizeLine ∧ Vals xs its.toList
mutual
def toD : W -> PyData
 | .non => .none
 | .bl b => .bool b
 | .int i => .int i
 | .str x => .str (tx x)
 | .tup ws => .tuple (toDs ws)
 | .lst ws => .list (toDs ws)
 | _ => .none
def toDs : List W -> List PyData
 | [] => []
 | w :: ws => toD w :: toDs ws
end
def ShownAs (w : W) (v : V) : Prop := v = .str (toD w).shown
structure Ct where
 w : World
 K : PySem.W.Frag
 cls : Nat -> Addr
 fld : Nat -> Str
 own : Nat -> Bool
def FldsAs (C : Ct) (c : Nat) (ns : List Nat) (fs : List (Str × V)) : Prop := C.own c = true ∧ fs.map (·.1) = ns.map C.fld
def ents (w : World) : List W -> List Value -> List Value -> List DictEntry
 | k :: ks, u :: us, z :: zs => ⟨(nk k).hash w, u, z⟩ :: ents w ks us zs
 | _, _, _ => []
def DictAt (w : World) (a : Addr) (o : Obj) (ks : List W) (kv : List V) (vv : List V) (h : Heap) : Prop :=
 ∃ (es : Array DictEntry) (ep : Nat) (us zs : List Value), h.get? a = some o ∧ o.ExactDict ∧ o.data = .dict es ep ∧ (a == sysModules) = false ∧
  Vals kv us ∧ Vals vv zs ∧ us.length = ks.length ∧ zs.length = ks.length ∧ es.toList = ents w ks us zs ∧ (ks.map nk).Nodup ∧ ks.all (keyOk 8) = true ∧ ks.length <= sizeLine
def dictO (w : World) (a : Addr) (o : Obj) (ks : List W) (kv vv : List V) : HO := .ext (DictAt w a o ks kv vv)
abbrev dOb : Obj := { cls := .type "dict", data := .dict #[] }
def IsD (H : Hp) (w : World) (a : Addr) (ks : List W) (kv vv : List V) : Prop := ∃ o, H a = some (dictO w a o ks kv vv)
section
variable (C : Ct) (H : Hp) (Z : Addr -> Prop)
mutual
def VR : W -> V -> Prop
 | .non, v => v = .non
 | .bl b, v => v = .bl b
 | .int i, v => v = .int i
 | .str x, v => v = .str (tx x)
 | .tup ws, v => ∃ a vs, v = .ref a ∧ SqN H a vs ∧ VRs ws vs
 | .lst ws, v => ∃ a vs, v = .ref a ∧ H a = some (.lst vs) ∧ ¬ Z a ∧ VRs ws vs
 | .dct ks us, v => ∃ a kv vv, v = .ref a ∧ IsD H C.w a ks kv vv ∧ ¬ Z a ∧ VRs ks kv ∧ VRs us vv
 | .ins c ns ws, v => ∃ a dx fs, v = .ref a ∧ H a = some (.ins (C.cls c) dx fs) ∧ ¬ Z a ∧ FldsAs C c ns fs ∧ VRs ws (fs.map (·.2))
 | .exc _ _, _ => False
 | .scr is, v => ∃ a, v = .ref a ∧ ((Rd H a (.lst (is.map V.int)) ∧ ¬ Z a) ∨ LstK C.K a (is.map V.int))
 | .rep w, v => ShownAs w v
def VRs : List W -> List V -> Prop
 | [], vs => vs = []
 | w :: ws, vs => ∃ v r, vs = v :: r ∧ VR w v ∧ VRs ws r
end
end
def Live (ρ : List Addr) (h : Hh) (a : Addr) : Prop := ∃ (n : Nat) (o : O), ρ[n]? = some a ∧ h[n]? = some o ∧ o ≠ O.dead
abbrev Av (ρ : List Addr) (h : Hh) (Z0 : Addr -> Prop) (a : Addr) : Prop := Live ρ h a ∨ Z0 a
def RR (C : Ct) (H : Hp) (Z : Addr -> Prop) (ρ : List Addr) : R -> V -> Prop
 | .w w, v => VR C H Z w v
 | .loc n, v => ∃ a, ρ[n]? = some a ∧ v = .ref a
def RRs (C : Ct) (H : Hp) (Z : Addr -> Prop) (ρ : List Addr) : List R -> List V -> Prop
 | [], vs => vs = []
 | r :: rs, vs => ∃ v t, vs = v :: t ∧ RR C H Z ρ r v ∧ RRs C H Z ρ rs t
def XoN (H : Hp) (a C : Addr) (y : V) : Prop := ∃ dx o u φ, H a = some (.frz o (.ext φ)) ∧ (o.cls = .ref C ∧ o.dict = some dx ∧ ∃ vs, o.data = .fields vs) ∧ H dx = some (.frz u (exd dx [("value", y)]))
theorem XoN.keep {H H' : Hp} {a C : Addr} {y : V} (k : ∀ a o φ, H a = some (.frz o (.ext φ)) -> H' a = some (.frz o (.ext φ))) (s : XoN H a C y) : XoN H' a C y := by
 obtain ⟨dx, o, u, φ, q1, z, q2⟩ := s
 exact ⟨dx, o, u, φ, k _ _ _ q1, z, k _ _ _ q2⟩
def OR (C : Ct) (H : Hp) (Z : Addr -> Prop) (ρ : List Addr) (a : Addr) : O -> Prop
 | .lst rs => ∃ vs, H a = some (.lst vs) ∧ RRs C H Z ρ rs vs
 | .dct ks us => ∃ kv vv, IsD H C.w a ks kv vv ∧ VRs C H Z ks kv ∧ RRs C H Z ρ us vv
 | .ins c ns us => ∃ dx fs, H a = some (.ins (C.cls c) dx fs) ∧ FldsAs C c ns fs ∧ RRs C H Z ρ us (fs.map (·.2))
 | .tup rs => ∃ vs, SqN H a vs ∧ RRs C H Z ρ rs vs
 | .exc c r => ∃ y, XoN H a (C.cls c) y ∧ RR C H Z ρ r y
 | .dead => True
structure HR (C : Ct) (Z0 : Addr -> Prop) (ρ : List Addr) (h : Hh) (H : Hp) : Prop where
 len : ρ.length = h.length
 nd : ρ.Nodup
 ob : ∀ (n : Nat) (o : O) (a : Addr), h[n]? = some o -> ρ[n]? = some a -> o ≠ O.dead -> OR C H (Av ρ h Z0) ρ a o
 zd : ∀ a, Z0 a -> ∃ o, H a = some o
 tr : ∀ a, a ∈ ρ -> ∃ o, H a = some o
 dj : ∀ a, a ∈ ρ -> ¬ Z0 a
structure Ex (ρ : List Addr) (h : Hh) (H : Hp) (ρ' : List Addr) (h' : Hh) (H' : Hp) : Prop where
 pre : ∃ t, ρ' = ρ ++ t
 fr : ∀ a o, H a = some o -> ¬ Live ρ h a -> H' a = some o ∧ ¬ Live ρ' h' a
 tp : ∀ a xs, SqN H a xs -> SqN H' a xs
 xp : ∀ a o φ, H a = some (.frz o (.ext φ)) -> H' a = some (.frz o (.ext φ))
theorem Ex.refl {ρ : List Addr} {h : Hh} {H : Hp} : Ex ρ h H ρ h H := ⟨⟨[], by simp⟩, fun a o e n => ⟨e, n⟩, fun _ _ e => e, fun _ _ _ e => e⟩
theorem Ex.trans {ρ ρ1 ρ2 : List Addr} {h h1 h2 : Hh} {H H1 H2 : Hp} (x : Ex ρ h H ρ1 h1 H1) (y : Ex ρ1 h1 H1 ρ2 h2 H2) : Ex ρ h H ρ2 h2 H2 where
 pre := by
  obtain ⟨t, rfl⟩ := x.pre
  obtain ⟨u, rfl⟩ := y.pre
  simp_all
 fr := fun a o e n => by
  obtain ⟨e1, n1⟩ := x.fr a o e n
  exact y.fr a o e1 n1
 tp := fun a xs e => y.tp a xs (x.tp a xs e)
 xp := fun a c v e => y.xp a c v (x.xp a c v e)
section
variable {C : Ct} {H H' : Hp} {Z Z' Z0 : Addr -> Prop} {ρ ρ' : List Addr} {h h' : Hh}
theorem Ex.sqT {a : Addr} {xs : List V} (x : Ex ρ h H ρ' h' H') (s : SqN H a xs) : SqN H' a xs := x.tp _ _ s
mutual
theorem VR.stay (k : ∀ a o, H a = some o -> ¬ Z a -> H' a = some o ∧ ¬ Z' a) (kt : ∀ a xs, SqN H a xs -> SqN H' a xs) :
  ∀ (w : W) (v : V), VR C H Z w v -> VR C H' Z' w v
 | .non, v, x => x
 | .bl b, v, x => x
 | .int i, v, x => x
 | .str s, v, x => x
 | .tup ws, v, x => by
  unfold VR at x ⊢
  obtain ⟨a, vs, rfl, s, r⟩ := x
  exact ⟨a, vs, rfl, kt _ _ s, VRs.stay k kt ws vs r⟩
 | .lst ws, v, x => by
  unfold VR at x ⊢
  obtain ⟨a, vs, rfl, s, n, r⟩ := x
  exact ⟨a, vs, rfl, (k _ _ s n).1, (k _ _ s n).2, VRs.stay k kt ws vs r⟩
 | .dct ks us, v, x => by
  unfold VR at x ⊢
  obtain ⟨a, kv, vv, rfl, ⟨ob, s⟩, n, r1, r2⟩ := x
  exact ⟨a, kv, vv, rfl, ⟨ob, (k _ _ s n).1⟩, (k _ _ s n).2, VRs.stay k kt ks kv r1, VRs.stay k kt us vv r2⟩
 | .ins c ns ws, v, x => by
  unfold VR at x ⊢
  obtain ⟨a, dx, fs, rfl, s, n, e, r⟩ := x
  exact ⟨a, dx, fs, rfl, (k _ _ s n).1, (k _ _ s n).2, e, VRs.stay k kt ws _ r⟩
 | .exc _ _, v, x => x
 | .rep _, v, x => x
 | .scr is, v, x => by
  unfold VR at x ⊢
  obtain ⟨a, rfl, s⟩ := x
  refine ⟨a, rfl, ?_⟩
  rcases s with ⟨s | ⟨o, s⟩, n⟩ | s
  ·exact .inl ⟨.inl (k _ _ s n).1, (k _ _ s n).2⟩
  ·exact .inl ⟨.inr ⟨o, (k _ _ s n).1⟩, (k _ _ s n).2⟩
  ·exact .inr s
theorem VRs.stay (k : ∀ a o, H a = some o -> ¬ Z a -> H' a = some o ∧ ¬ Z' a) (kt : ∀ a xs, SqN H a xs -> SqN H' a xs) :
  ∀ (ws : List W) (vs : List V), VRs C H Z ws vs -> VRs C H' Z' ws vs
 | [], vs, x => x
 | w :: ws, vs, x => by
  unfold VRs at x ⊢
  obtain ⟨v, r, rfl, x1, x2⟩ := x
  exact ⟨v, r, rfl, VR.stay k kt w v x1, VRs.stay k kt ws r x2⟩
end
theorem Ex.keep (x : Ex ρ h H ρ' h' H') : ∀ a o, H a = some o -> ¬ Av ρ h Z0 a -> H' a = some o ∧ ¬ Av ρ' h' Z0 a := fun a o e n => by
 obtain ⟨e1, n1⟩ := x.fr a o e fun z => n (.inl z)
 simp_all
theorem VR.ex (x : Ex ρ h H ρ' h' H') {w : W} {v : V} (r : VR C H (Av ρ h Z0) w v) : VR C H' (Av ρ' h' Z0) w v := VR.stay x.keep (fun _ _ s => x.sqT s) w v r
theorem VRs.ex (x : Ex ρ h H ρ' h' H') {w : List W} {v : List V} (r : VRs C H (Av ρ h Z0) w v) : VRs C H' (Av ρ' h' Z0) w v := VRs.stay x.keep (fun _ _ s => x.sqT s) w v r
theorem Ex.get (x : Ex ρ h H ρ' h' H') {n : Nat} {a : Addr} (e : ρ[n]? = some a) : ρ'[n]? = some a := by
 obtain ⟨t, rfl⟩ := x.pre
 grind
theorem RR.ex (x : Ex ρ h H ρ' h' H') : ∀ {r : R} {v : V}, RR C H (Av ρ h Z0) ρ r v -> RR C H' (Av ρ' h' Z0) ρ' r v
 | .w w, v, r => VR.ex x r
 | .loc n, v, ⟨a, e, r⟩ => ⟨a, x.get e, r⟩
theorem RRs.ex (x : Ex ρ h H ρ' h' H') : ∀ {rs : List R} {vs : List V}, RRs C H (Av ρ h Z0) ρ rs vs -> RRs C H' (Av ρ' h' Z0) ρ' rs vs
 | [], vs, r => r
 | r :: rs, vs, ⟨v, t, e, q, qs⟩ => ⟨v, t, e, RR.ex x q, RRs.ex x qs⟩
theorem OR_some {a : Addr} {o : O} (q : OR C H Z ρ a o) (d : o ≠ O.dead) : ∃ u, H a = some u := by
 cases o with
 | lst rs => obtain ⟨vs, e, _⟩ := q; exact ⟨_, e⟩
 | dct ks us => obtain ⟨kv, vv, ⟨ob, e⟩, _⟩ := q; exact ⟨_, e⟩
 | ins c ns us => obtain ⟨dx, fs, e, _⟩ := q; exact ⟨_, e⟩
 | tup rs => obtain ⟨vs, ⟨ob, e, _⟩, _⟩ := q; exact ⟨_, e⟩
 | exc c r => obtain ⟨y, ⟨dx, o, u, φ, e, _⟩, _⟩ := q; exact ⟨_, e⟩
 | dead => simp_all
theorem HR.av (x : HR C Z0 ρ h H) {a : Addr} (z : Av ρ h Z0 a) : ∃ o, H a = some o := by
 rcases z with ⟨n, o, e1, e2, d⟩ | z
 ·exact OR_some (x.ob n o a e2 e1 d) d
 ·exact x.zd a z
theorem HR.new (x : HR C Z0 ρ h H) {a : Addr} (e : H a = none) : ¬ Av ρ h Z0 a := fun z => by
 obtain ⟨o, q⟩ := x.av z
 simp_all
theorem Ex.fresh (x : HR C Z0 ρ h H) {p : Addr} {o : HO} (e : H p = none) : Ex ρ h H ρ h (upd H p o) where
 pre := ⟨[], by simp⟩
 fr := fun a u q n => ⟨by rw [upd_ne (ne_of_none q e)]; exact q, n⟩
 tp := fun a xs ⟨u, q, d⟩ => ⟨u, by rw [upd_ne (ne_of_none q e)]; exact q, d⟩
 xp := fun a o φ q => by rw [upd_ne (ne_of_none q e)]; exact q
theorem OR_ex {a : Addr} {o : O} (q : OR C H (Av ρ h Z0) ρ a o) (x : Ex ρ h H ρ' h' H') (e : ∀ u, H a = some u -> H' a = some u) : OR C H' (Av ρ' h' Z0) ρ' a o := by
 cases o with
 | lst rs => obtain ⟨vs, e1, r⟩ := q; exact ⟨vs, e _ e1, RRs.ex x r⟩
 | dct ks us => obtain ⟨kv, vv, ⟨ob, e1⟩, r, r2⟩ := q; exact ⟨kv, vv, ⟨ob, e _ e1⟩, VRs.ex x r, RRs.ex x r2⟩
 | ins c ns us => obtain ⟨dx, fs, e1, e2, r⟩ := q; exact ⟨dx, fs, e _ e1, e2, RRs.ex x r⟩
 | tup rs => obtain ⟨vs, ⟨ob, e1, e2⟩, r⟩ := q; exact ⟨vs, ⟨ob, e _ e1, e2⟩, RRs.ex x r⟩
 | exc c r => obtain ⟨y, e1, r⟩ := q; exact ⟨y, e1.keep x.xp, RR.ex x r⟩
 | dead => trivial
theorem HR.fresh (x : HR C Z0 ρ h H) {p : Addr} {o : HO} (e : H p = none) : HR C Z0 ρ h (upd H p o) where
 len := x.len
 nd := x.nd
 ob := fun n u a h1 h2 d => OR_ex (x.ob n u a h1 h2 d) (Ex.fresh x e) fun v q => by rw [upd_ne (ne_of_none q e)]; exact q
 zd := fun a z => by
  obtain ⟨u, q⟩ := x.zd a z
  exact ⟨u, by rw [upd_ne (ne_of_none q e)]; exact q⟩
 tr := fun a z => by
  obtain ⟨u, q⟩ := x.tr a z
  exact ⟨u, by rw [upd_ne (ne_of_none q e)]; exact q⟩
 dj := x.dj
end
def ER (C : Ct) (H : Hp) (Z : Addr -> Prop) (ρ : List Addr) (env : Env) (σ : L2.St) : Prop := ∀ (i : Nat) (r : R), env[i]? = some (some r) -> ∃ v, σ[i]? = some (some v) ∧ RR C H Z ρ r v
section
variable {C : Ct} {H H' : Hp} {Z Z' Z0 : Addr -> Prop} {ρ ρ' : List Addr} {h h' : Hh} {env : Env} {σ : L2.St}
theorem ER.ex (x : Ex ρ h H ρ' h' H') (q : ER C H (Av ρ h Z0) ρ env σ) : ER C H' (Av ρ' h' Z0) ρ' env σ := fun i r e => by
 obtain ⟨v, e1, r1⟩ := q i r e
 exact ⟨v, e1, RR.ex x r1⟩
theorem ER.set {r : R} {v : V} {i : Nat} (q : ER C H Z ρ env σ) (hr : RR C H Z ρ r v) (hl : i < σ.length) : ER C H Z ρ (env.set i (some r)) (σ.set i (some v)) := fun j u e => by
 by_cases hj : i = j
 ·by_cases hi : i < env.length <;> simp_all
 ·rw [List.getElem?_set_ne hj] at e ⊢
  exact q j u e
end
end Tf
namespace Tf
open PySem L2 PyProof.Rows
abbrev Sg := L2.St
def EQ (C : Ct) (Z0 : Addr -> Prop) (ρ : List Addr) (h : Hh) (H : Hp) (Q : VK) : Res R -> Prop
 | .ok r h' => ∀ ρ' H' v, Ex ρ h H ρ' h' H' -> HR C Z0 ρ' h' H' -> RR C H' (Av ρ' h' Z0) ρ' r v -> Q v H'
 | _ => False
def EQs (C : Ct) (Z0 : Addr -> Prop) (ρ : List Addr) (h : Hh) (H : Hp) (Q : List V -> Hp -> Prop) : Res (List R) -> Prop
 | .ok r h' => ∀ ρ' H' v, Ex ρ h H ρ' h' H' -> HR C Z0 ρ' h' H' -> RRs C H' (Av ρ' h' Z0) ρ' r v -> Q v H'
 | _ => False
section
variable {C : Ct} {H H' : Hp} {Z0 : Addr -> Prop} {ρ ρ' : List Addr} {h h' : Hh} {Q Q' : VK}
theorem EQ.later (x : Ex ρ h H ρ' h' H') : ∀ {u : Res R}, EQ C Z0 ρ h H Q u -> EQ C Z0 ρ' h' H' Q u
 | .ok _ _, q => fun ρ2 H2 v e hr rr => q ρ2 H2 v (x.trans e) hr rr
 | .ex _ _, q => q
 | .no, q => q
theorem EQ.imp (i : ∀ v H', Q v H' -> Q' v H') : ∀ {u : Res R}, EQ C Z0 ρ h H Q u -> EQ C Z0 ρ h H Q' u
 | .ok _ _, q => fun ρ2 H2 v e hr rr => i _ _ (q ρ2 H2 v e hr rr)
 | .ex _ _, q => q
 | .no, q => q
theorem EQ.val {w : W} {v : V} (q : EQ C Z0 ρ h H Q (.ok (.w w) h)) (hr : HR C Z0 ρ h H) (r : VR C H (Av ρ h Z0) w v) : Q v H := q ρ H v .refl hr r
theorem EQ.ref {r : R} {v : V} (q : EQ C Z0 ρ h H Q (.ok r h)) (hr : HR C Z0 ρ h H) (rr : RR C H (Av ρ h Z0) ρ r v) : Q v H := q ρ H v .refl hr rr
theorem EQ.new {w : W} {p : Addr} {o : HO} (q : EQ C Z0 ρ h H Q (.ok (.w w) h)) (hr : HR C Z0 ρ h H) (e : H p = none) (r : VR C (upd H p o) (Av ρ h Z0) w (.ref p)) : Q (.ref p) (upd H p o) :=
 q ρ _ _ (Ex.fresh hr e) (hr.fresh e) r
end
def tEv (C : Ct) (x : Env -> Hh -> Res R) : TE := fun σ H Q => ∃ Z0 ρ h env, HR C Z0 ρ h H ∧ ER C H (Av ρ h Z0) ρ env σ ∧ EQ C Z0 ρ h H Q (x env h)
def tEvs (C : Ct) (x : Env -> Hh -> Res (List R)) : TA := fun σ H Q => ∃ Z0 ρ h env, HR C Z0 ρ h H ∧ ER C H (Av ρ h Z0) ρ env σ ∧ EQs C Z0 ρ h H Q (x env h)
theorem PE.imp {X : Cx} {e : Expr} {t t' : TE} (p : PE X e t) (i : ∀ σ H Q, t' σ H Q -> t σ H Q) : PE X e t' := ⟨fun pins s σ H Q I q => p.run pins s σ H Q I (i _ _ _ q)⟩
theorem PA.imp {X : Cx} {e : List Expr} {t t' : TA} (p : PA X e t) (i : ∀ σ H Q, t' σ H Q -> t σ H Q) : PA X e t' := ⟨fun pos pins s σ H Q I q => p.run pos pins s σ H Q I (i _ _ _ q)⟩
theorem PT.imp {X : Cx} {e : Expr} {t t' : TT} (p : PT X e t) (i : ∀ σ H Q, t' σ H Q -> t σ H Q) : PT X e t' := ⟨fun pins s σ H Q I q => p.run pins s σ H Q I (i _ _ _ q)⟩
structure Nx (C : Ct) (Z0 : Addr -> Prop) (ρ : List Addr) (h : Hh) (H : Hp) (env : Env) (σ : Sg) (H1 : Hp) (ρ1 : List Addr) (h1 : Hh) : Prop where
 ex : Ex ρ h H ρ1 h1 H1
 hr : HR C Z0 ρ1 h1 H1
 er : ER C H1 (Av ρ1 h1 Z0) ρ1 env σ
section
variable {C : Ct} {H H' : Hp} {Z0 : Addr -> Prop} {ρ ρ' : List Addr} {h h' : Hh} {env : Env} {σ : Sg} {Q : VK} {x : Env -> Hh -> Res R} {xs : Env -> Hh -> Res (List R)}
theorem tEv.bind {K : VK} (hr : HR C Z0 ρ h H) (er : ER C H (Av ρ h Z0) ρ env σ) {r : R} {h1 : Hh} (e : x env h = .ok r h1)
  (k : ∀ H1 ρ1 v, Nx C Z0 ρ h H env σ H1 ρ1 h1 -> RR C H1 (Av ρ1 h1 Z0) ρ1 r v -> K v H1) : tEv C x σ H K :=
 ⟨Z0, ρ, h, env, hr, er, by rw [e]; exact fun ρ' H' v ex hr' rr => k H' ρ' v ⟨ex, hr', er.ex ex⟩ rr⟩
theorem tEvs.bind {K : List V -> Hp -> Prop} (hr : HR C Z0 ρ h H) (er : ER C H (Av ρ h Z0) ρ env σ) {r : List R} {h1 : Hh} (e : xs env h = .ok r h1)
  (k : ∀ H1 ρ1 v, Nx C Z0 ρ h H env σ H1 ρ1 h1 -> RRs C H1 (Av ρ1 h1 Z0) ρ1 r v -> K v H1) : tEvs C xs σ H K :=
 ⟨Z0, ρ, h, env, hr, er, by rw [e]; exact fun ρ' H' v ex hr' rr => k H' ρ' v ⟨ex, hr', er.ex ex⟩ rr⟩
end
structure Nm where
 cls : Nat -> Addr
 fld : Nat -> Str
 own : Nat -> Bool
abbrev ct (N : Nm) (X : Cx) : Ct := ⟨X.w, X.K, N.cls, N.fld, N.own⟩
section
variable {X : Cx} {N : Nm} {cl : Cls} {call : Call}
theorem se_int {i j pos} : PE X (.Constant (.int i) j pos) (tEv (ct N X) (ev cl call (.c (.int i)))) := PE.imp pe_int fun σ H Q ⟨Z0, ρ, h, env, hr, er, q⟩ => EQ.val (w := .int i) q hr (by unfold VR; rfl)
theorem se_bl {b j pos} : PE X (.Constant (.bool b) j pos) (tEv (ct N X) (ev cl call (.c (.bl b)))) := PE.imp pe_bl fun σ H Q ⟨Z0, ρ, h, env, hr, er, q⟩ => EQ.val (w := .bl b) q hr (by unfold VR; rfl)
theorem se_non {j pos} : PE X (.Constant .none j pos) (tEv (ct N X) (ev cl call (.c .non))) := PE.imp pe_non fun σ H Q ⟨Z0, ρ, h, env, hr, er, q⟩ => EQ.val (w := .non) q hr (by unfold VR; rfl)
theorem se_str {x j pos} : PE X (.Constant (.str x) j pos) (tEv (ct N X) (ev cl call (.c (.str x.cps.toList)))) := PE.imp pe_str fun σ H Q ⟨Z0, ρ, h, env, hr, er, q⟩ => EQ.val (w := .str x.cps.toList) q hr (by unfold VR; rfl)
theorem se_var {i : Nat} {x : Str} {pos : Pos} (hN : X.N[i]? = some x) (hv : Vis X.env.scope x) (hd : (x == ("__debug__" : Str)) = false) (hcd : (x == ("__classdict__" : Str)) = false) : PE X (.Name x pos) (tEv (ct N X) (ev cl call (.v i))) :=
 PE.imp (pe_var hN hv hd hcd) fun σ H Q ⟨Z0, ρ, h, env, hr, er, q⟩ => by
  unfold ev at q
  cases e : env[i]? with
  | none => rw [e] at q; exact q.elim
  | some o =>
   cases o with
   | none => rw [e] at q; exact q.elim
   | some r =>
    rw [e] at q
    obtain ⟨v, e1, rr⟩ := er i r e
    exact ⟨v, e1, q.ref hr rr⟩
theorem sa_nil : PA X [] (tEvs (ct N X) (evs cl call [])) := PA.imp pa_nil fun σ H Q ⟨Z0, ρ, h, env, hr, er, q⟩ => q ρ H [] .refl hr rfl
theorem sa_cons {e : Expr} {es : List Expr} {a : E} {as : List E} (h1 : PE X e (tEv (ct N X) (ev cl call a))) (h2 : PA X es (tEvs (ct N X) (evs cl call as)))
  (hs : starEach (e :: es) X.env = (false, eval e X.env) :: starEach es X.env) : PA X (e :: es) (tEvs (ct N X) (evs cl call (a :: as))) :=
 PA.imp (pa_cons h1 h2 hs) fun σ H Q ⟨Z0, ρ, h, env, hr, er, q⟩ => by
  unfold evs at q
  cases e1 : ev cl call a env h with
  | ex c v => rw [e1] at q; exact q.elim
  | no => rw [e1] at q; exact q.elim
  | ok r hh1 =>
   rw [e1] at q
   refine tEv.bind hr er e1 fun H1 ρ1 v n1 rr => ?_
   cases e2 : evs cl call as env hh1 with
   | ex c v => simp only [e2] at q; exact q.elim
   | no => simp only [e2] at q; exact q.elim
   | ok rs hh2 =>
    simp only [e2] at q
    refine tEvs.bind n1.hr n1.er e2 fun H2 ρ2 vs n2 rrs => ?_
    exact q ρ2 H2 _ (n1.ex.trans n2.ex) n2.hr ⟨v, vs, rfl, RR.ex n2.ex rr, rrs⟩
theorem vr_bl {C : Ct} {H : Hp} {Z : Addr -> Prop} {b : Bool} {v : V} (h : VR C H Z (.bl b) v) : v = .bl b := by unfold VR at h; exact h
theorem vr_int {C : Ct} {H : Hp} {Z : Addr -> Prop} {b : Int} {v : V} (h : VR C H Z (.int b) v) : v = .int b := by unfold VR at h; exact h
theorem vr_str {C : Ct} {H : Hp} {Z : Addr -> Prop} {b : Tx} {v : V} (h : VR C H Z (.str b) v) : v = .str (tx b) := by unfold VR at h; exact h
theorem vr_non {C : Ct} {H : Hp} {Z : Addr -> Prop} {v : V} (h : VR C H Z .non v) : v = .non := by unfold VR at h; exact h
theorem rr_bl {C : Ct} {H : Hp} {Z : Addr -> Prop} {ρ : List Addr} {b : Bool} {v : V} (h : RR C H Z ρ (.w (.bl b)) v) : v = .bl b := by
 unfold RR at h
 exact vr_bl h
theorem rr_int {C : Ct} {H : Hp} {Z : Addr -> Prop} {ρ : List Addr} {b : Int} {v : V} (h : RR C H Z ρ (.w (.int b)) v) : v = .int b := by
 unfold RR at h
 exact vr_int h
theorem rr_str {C : Ct} {H : Hp} {Z : Addr -> Prop} {ρ : List Addr} {b : Tx} {v : V} (h : RR C H Z ρ (.w (.str b)) v) : v = .str (tx b) := by
 unfold RR at h
 exact vr_str h
theorem rr_non {C : Ct} {H : Hp} {Z : Addr -> Prop} {ρ : List Addr} {v : V} (h : RR C H Z ρ (.w .non) v) : v = .non := by
 unfold RR at h
 exact vr_non h
theorem rr_w {C : Ct} {H : Hp} {Z : Addr -> Prop} {ρ : List Addr} {w : W} {v : V} (h : RR C H Z ρ (.w w) v) : VR C H Z w v := by
 exact h
def EB (C : Ct) (Z0 : Addr -> Prop) (ρ : List Addr) (h : Hh) (H : Hp) (Q : Bool -> Hp -> Prop) : Res R -> Prop
 | .ok (.w (.bl b)) h' => ∀ ρ' H', Ex ρ h H ρ' h' H' -> HR C Z0 ρ' h' H' -> Q b H'
 | _ => False
def tEb (C : Ct) (x : Env -> Hh -> Res R) : TT := fun σ H Q => ∃ Z0 ρ h env, HR C Z0 ρ h H ∧ ER C H (Av ρ h Z0) ρ env σ ∧ EB C Z0 ρ h H Q (x env h)
theorem EB.shape {C : Ct} {Z0 : Addr -> Prop} {ρ : List Addr} {h : Hh} {H : Hp} {Q : Bool -> Hp -> Prop} {u : Res R} (q : EB C Z0 ρ h H Q u) : ∃ b h', u = .ok (.w (.bl b)) h' ∧ ∀ ρ' H', Ex ρ h H ρ' h' H' -> HR C Z0 ρ' h' H' -> Q b H' := by
 unfold EB at q
 split at q
 ·exact ⟨_, _, rfl, q⟩
 ·simp_all
theorem EB.of {C : Ct} {Z0 : Addr -> Prop} {ρ : List Addr} {h h' : Hh} {H : Hp} {Q : Bool -> Hp -> Prop} {b : Bool} (q : EB C Z0 ρ h H Q (.ok (.w (.bl b)) h')) : ∀ ρ' H', Ex ρ h H ρ' h' H' -> HR C Z0 ρ' h' H' -> Q b H' := q
theorem sb_of {e : Expr} {x : Env -> Hh -> Res R} (p : PE X e (tEv (ct N X) x)) (he : ∀ whole, isTrue e X.env whole = (do let v <- whole; standAt e.pos; holding [v] (truthy v))) : PT X e (tEb (ct N X) x) :=
 PT.imp (pt_val p he) fun σ H Q ⟨Z0, ρ, h, env, hr, er, q⟩ => by
  obtain ⟨b, h', e1, q⟩ := q.shape
  refine tEv.bind hr er e1 fun H1 ρ1 v n1 rr => ?_
  exact ⟨b, rr_bl rr, q ρ1 H1 n1.ex n1.hr⟩
theorem tEb.bind {C : Ct} {H : Hp} {Z0 : Addr -> Prop} {ρ : List Addr} {h : Hh} {env : Env} {σ : Sg} {x : Env -> Hh -> Res R} {K : Bool -> Hp -> Prop} (hr : HR C Z0 ρ h H) (er : ER C H (Av ρ h Z0) ρ env σ) {b : Bool} {h1 : Hh} (e : x env h = .ok (.w (.bl b)) h1)
  (k : ∀ H1 ρ1, Nx C Z0 ρ h H env σ H1 ρ1 h1 -> K b H1) : tEb C x σ H K :=
 ⟨Z0, ρ, h, env, hr, er, by rw [e]; exact fun ρ' H' ex hr' => k H' ρ' ⟨ex, hr', er.ex ex⟩⟩
theorem sb_not {a : Expr} {ia : E} {pos : Pos} (p : PT X a (tEb (ct N X) (ev cl call ia))) : PT X (.UnaryOp .Not a pos) (tEb (ct N X) (ev cl call (.op .not [ia]))) :=
 PT.imp (pt_not p) fun σ H Q ⟨Z0, ρ, h, env, hr, er, q⟩ => by
  unfold ev at q
  unfold evs at q
  cases e1 : ev cl call ia env h with
  | ex c v => rw [e1] at q; exact q.elim
  | no => rw [e1] at q; exact q.elim
  | ok r h1 =>
   rw [e1] at q
   simp only [evs] at q
   obtain ⟨b, h', e2, q⟩ := q.shape
   have : ∃ b', r = .w (.bl b') ∧ b = !b' ∧ h' = h1 := by
    cases r with
    | loc n => cases e2
    | w w =>
     cases w with
     | bl b' =>
      injection e2 with e3 e4
      simp_all
     | _ => cases e2
   obtain ⟨b', rfl, rfl, rfl⟩ := this
   refine tEb.bind hr er e1 fun H1 ρ1 n1 => ?_
   exact q ρ1 H1 n1.ex n1.hr
theorem sw_or1 {a : Expr} {x : Env -> Hh -> Res R} {pos : Pos} (p : PT X a (tEb (ct N X) x)) : PW X (.BoolOp .Or [a] pos) (tEb (ct N X) x) := pw_or1 p
theorem PW.imp {e : Expr} {t t' : TT} (p : PW X e t) (i : ∀ σ H Q, t' σ H Q -> t σ H Q) : PW X e t' := ⟨fun wh pins s σ H Q I q => p.run wh pins s σ H Q I (i _ _ _ q)⟩
theorem or_test {C : Ct} {ia ib : E} {σ : Sg} {H : Hp} {Q : Bool -> Hp -> Prop} (t : tEb C (ev cl call (.or ia ib)) σ H Q) : tOr (tEb C (ev cl call ia)) (tEb C (ev cl call ib)) σ H Q := by
 obtain ⟨Z0, ρ, h, env, hr, er, q⟩ := t
 unfold ev at q
 cases e1 : ev cl call ia env h with
 | ex c v => rw [e1] at q; exact q.elim
 | no => rw [e1] at q; exact q.elim
 | ok r h1 =>
  rw [e1] at q
  cases r with
  | loc n => exact q.elim
  | w w =>
   cases w with
   | bl b =>
    cases b with
    | true =>
     refine tEb.bind hr er e1 fun H1 ρ1 n1 => ?_
     exact q ρ1 H1 n1.ex n1.hr
    | false =>
     refine tEb.bind hr er e1 fun H1 ρ1 n1 => ?_
     obtain ⟨b, h', e2, q⟩ := q.shape
     refine tEb.bind n1.hr n1.er e2 fun H2 ρ2 n2 => ?_
     exact q ρ2 H2 (n1.ex.trans n2.ex) n2.hr
   | _ => exact q.elim
theorem sw_or {a b : Expr} {rest : List Expr} {ia ib : E} {pos : Pos} (p : PT X a (tEb (ct N X) (ev cl call ia))) (q : PW X (.BoolOp .Or (b :: rest) pos) (tEb (ct N X) (ev cl call ib))) : PW X (.BoolOp .Or (a :: b :: rest) pos) (tEb (ct N X) (ev cl call (.or ia ib))) :=
 PW.imp (pw_or p q) fun _ _ _ => or_test
theorem EQ.bl {C : Ct} {H : Hp} {Z0 : Addr -> Prop} {ρ : List Addr} {h h1 : Hh} {Q : VK} {b : Bool} (q : EQ C Z0 ρ h H Q (.ok (.w (.bl b)) h1)) {ρ1 : List Addr} {H1 : Hp} (ex : Ex ρ h H ρ1 h1 H1) (hr : HR C Z0 ρ1 h1 H1) : Q (.bl b) H1 := q ρ1 H1 _ ex hr (by unfold RR VR; rfl)
theorem se_and {a b : Expr} {rest : List Expr} {ia ib : E} {pos : Pos} (p : PE X a (tEv (ct N X) (ev cl call ia))) (p2 : PE X (.BoolOp .And (b :: rest) pos) (tEv (ct N X) (ev cl call ib))) : PE X (.BoolOp .And (a :: b :: rest) pos) (tEv (ct N X) (ev cl call (.and ia ib))) :=
 PE.imp (pe_and p p2) fun σ H Q ⟨Z0, ρ, h, env, hr, er, q⟩ => by
  unfold ev at q
  cases e1 : ev cl call ia env h with
  | ex c v => rw [e1] at q; exact q.elim
  | no => rw [e1] at q; exact q.elim
  | ok r h1 =>
   rw [e1] at q
   cases r with
   | loc n => exact q.elim
   | w w =>
    cases w with
    | bl b =>
     refine tEv.bind hr er e1 fun H1 ρ1 v n1 rr => ⟨b, rr_bl rr, ?_⟩
     cases b with
     | false =>
      exact EQ.bl q n1.ex n1.hr
     | true =>
      exact ⟨Z0, ρ1, h1, env, n1.hr, n1.er, EQ.later n1.ex q⟩
    | _ => exact q.elim
theorem se_one {a : Expr} {op : PySem.BoolOp} {ia : E} {pos : Pos} (p : PE X a (tEv (ct N X) (ev cl call ia))) : PE X (.BoolOp op [a] pos) (tEv (ct N X) (ev cl call ia)) := pe_one p
end
end Tf
namespace Tf
open PySem L2 PyProof.Rows
theorem tx_len (x : Tx) : (tx x).length = x.length := by show (x.toArray).size = _; simp
theorem tx_app (x y : Tx) : tx x ++ tx y = tx (x ++ y) := by
 show (⟨x.toArray ++ y.toArray⟩ : Str) = ⟨(x ++ y).toArray⟩
 simp
theorem tx_inj {x y : Tx} : tx x = tx y ↔ x = y := by grind [tx]
theorem sz_line {n : Nat} (h : n <= sizeMax) : n <= sizeLine := by
 rw [sizeLine_eq]
 unfold sizeMax at h
 omega
mutual
theorem toD_plain : ∀ (n : Nat) (w : W), depthOk n w = true -> (toD w).plain = true ∧ (toD w).depth <= n
 | n, .non, _ => by unfold toD; exact ⟨rfl, Nat.zero_le _⟩
 | n, .bl _, _ => by unfold toD; exact ⟨rfl, Nat.zero_le _⟩
 | n, .int _, _ => by unfold toD; exact ⟨rfl, Nat.zero_le _⟩
 | n, .str _, _ => by unfold toD; exact ⟨rfl, Nat.zero_le _⟩
 | n + 1, .tup ws, h => by
  unfold depthOk at h
  obtain ⟨a, b⟩ := toDs_plain n ws h
  unfold toD
  exact ⟨by unfold PyData.plain; exact a, by unfold PyData.depth; omega⟩
 | n + 1, .lst ws, h => by
  unfold depthOk at h
  obtain ⟨a, b⟩ := toDs_plain n ws h
  unfold toD
  exact ⟨by unfold PyData.plain; exact a, by unfold PyData.depth; omega⟩
 | 0, .tup _, h => by unfold depthOk at h; cases h
 | 0, .lst _, h => by unfold depthOk at h; cases h
 | _, .dct _ _, h => by unfold depthOk at h; cases h
 | _, .ins _ _ _, h => by unfold depthOk at h; cases h
 | _, .exc _ _, h => by unfold depthOk at h; cases h
 | _, .scr _, h => by unfold depthOk at h; cases h
 | _, .rep _, h => by unfold depthOk at h; cases h
theorem toDs_plain : ∀ (n : Nat) (ws : List W), depthsOk n ws = true -> PyData.plainAll (toDs ws) = true ∧ PyData.depthAll (toDs ws) <= n
 | n, [], _ => by unfold toDs; exact ⟨rfl, Nat.zero_le _⟩
 | n, w :: ws, h => by
  unfold depthsOk at h
  rw [Bool.and_eq_true] at h
  obtain ⟨a, b⟩ := toD_plain n w h.1
  obtain ⟨c, d⟩ := toDs_plain n ws h.2
  unfold toDs
  exact ⟨by unfold PyData.plainAll; rw [a, c]; rfl, by unfold PyData.depthAll; omega⟩
end
theorem beq_dec {α : Type} [BEq α] [LawfulBEq α] [DecidableEq α] (a b : α) : (a == b) = decide (a = b) := by
 grind
mutual
theorem toD_eqv : ∀ (n m : Nat) (a b : W), depthOk n a = true -> depthOk m b = true -> PyData.eqv (toD a) (toD b) = weq a b
 | n, m, .non, b, _, hb => by cases b <;> first | rfl | (unfold depthOk at hb; cases hb) | (unfold toD PyData.eqv weq; rfl)
 | n, m, .bl x, b, _, hb => by
  cases b <;> first | rfl | (unfold depthOk at hb; cases hb; done) | (unfold toD PyData.eqv weq b2i; exact beq_dec _ _) | (unfold toD PyData.eqv weq; rfl)
 | n, m, .int x, b, _, hb => by
  cases b <;> first | rfl | (unfold depthOk at hb; cases hb; done) | (unfold toD PyData.eqv weq b2i; exact beq_dec _ _) | (unfold toD PyData.eqv weq; exact beq_dec _ _) | (unfold toD PyData.eqv weq; rfl)
 | n, m, .str x, b, _, hb => by
  cases b <;> first | rfl | (unfold depthOk at hb; cases hb; done) | (unfold toD PyData.eqv weq; rw [beq_dec]; exact decide_eq_decide.mpr tx_inj) | (unfold toD PyData.eqv weq; rfl)
 | n + 1, m, .tup xs, b, ha, hb => by
  cases b with
  | tup ys =>
   cases m with
   | zero => unfold depthOk at hb; cases hb
   | succ m =>
    unfold depthOk at ha hb
    unfold toD PyData.eqv weq
    exact toDs_eqv n m xs ys ha hb
  | _ => first | rfl | (unfold depthOk at hb; cases hb; done) | (unfold toD PyData.eqv weq; rfl)
 | n + 1, m, .lst xs, b, ha, hb => by
  cases b with
  | lst ys =>
   cases m with
   | zero => unfold depthOk at hb; cases hb
   | succ m =>
    unfold depthOk at ha hb
    unfold toD PyData.eqv weq
    exact toDs_eqv n m xs ys ha hb
  | _ => first | rfl | (unfold depthOk at hb; cases hb; done) | (unfold toD PyData.eqv weq; rfl)
 | 0, _, .tup _, _, h, _ => by unfold depthOk at h; cases h
 | 0, _, .lst _, _, h, _ => by unfold depthOk at h; cases h
 | _, _, .dct _ _, _, h, _ => by unfold depthOk at h; cases h
 | _, _, .ins _ _ _, _, h, _ => by unfold depthOk at h; cases h
 | _, _, .exc _ _, _, h, _ => by unfold depthOk at h; cases h
 | _, _, .scr _, _, h, _ => by unfold depthOk at h; cases h
 | _, _, .rep _, _, h, _ => by unfold depthOk at h; cases h
theorem toDs_eqv : ∀ (n m : Nat) (a b : List W), depthsOk n a = true -> depthsOk m b = true -> PyData.eqvAll (toDs a) (toDs b) = weqs a b
 | _, _, [], [], _, _ => by unfold toDs PyData.eqvAll weqs; rfl
 | _, _, [], _ :: _, _, _ => by unfold toDs PyData.eqvAll weqs; rfl
 | _, _, _ :: _, [], _, _ => by unfold toDs PyData.eqvAll weqs; rfl
 | n, m, x :: xs, y :: ys, ha, hb => by
  unfold depthsOk at ha hb
  rw [Bool.and_eq_true] at ha hb
  unfold toDs PyData.eqvAll weqs
  rw [toD_eqv n m x y ha.1 hb.1, toDs_eqv n m xs ys ha.2 hb.2]
end
section
variable {X : Cx} {N : Nm} {pins : List (Addr × Obj)} {σ : Sg} {H : Hp} {s : Shared} {Z : Addr -> Prop}
mutual
theorem VR.reads (I : Inv X pins σ H s) : ∀ (n : Nat) (w : W) (v : V) (u : Value), depthOk n w = true -> VR (ct N X) H Z w v -> RelV v u -> ∃ as, Reads s.heap u (toD w) as
 | n, .non, v, u, _, h, r => by
  have := vr_non h
  subst this
  cases r
  exact ⟨_, by unfold toD; exact .none⟩
 | n, .bl b, v, u, _, h, r => by
  have := vr_bl h
  subst this
  cases r
  exact ⟨_, by unfold toD; exact .bool b⟩
 | n, .int i, v, u, _, h, r => by
  have := vr_int h
  subst this
  obtain ⟨t, rfl⟩ := r
  exact ⟨_, by unfold toD; exact .int i t⟩
 | n, .str x, v, u, _, h, r => by
  have := vr_str h
  subst this
  obtain ⟨t, rfl⟩ := r
  exact ⟨_, by unfold toD; exact .str _ t⟩
 | n + 1, .tup ws, v, u, d, h, r => by
  unfold depthOk at d
  unfold VR at h
  obtain ⟨a, vs, rfl, hs, hr⟩ := h
  cases r
  obtain ⟨its, rv, ⟨o, ho, hc, m, hd⟩, _⟩ := I.tuple hs.t
  obtain ⟨as, h4⟩ := VRs.reads I n ws vs its d hr rv
  exact ⟨_, by unfold toD; exact .tuple ho hc hd (by simpa using h4)⟩
 | n + 1, .lst ws, v, u, d, h, r => by
  unfold depthOk at d
  unfold VR at h
  obtain ⟨a, vs, rfl, hs, _, hr⟩ := h
  cases r
  obtain ⟨its, rv, ⟨o, m, ho, hc, hdn, hd⟩, _⟩ := I.list (.of hs)
  obtain ⟨as, h4⟩ := VRs.reads I n ws vs its d hr rv
  exact ⟨_, by unfold toD; exact .list ho hc hd (by simpa using h4)⟩
 | 0, .tup _, _, _, h, _, _ => by unfold depthOk at h; cases h
 | 0, .lst _, _, _, h, _, _ => by unfold depthOk at h; cases h
 | _, .dct _ _, _, _, h, _, _ => by unfold depthOk at h; cases h
 | _, .ins _ _ _, _, _, h, _, _ => by unfold depthOk at h; cases h
 | _, .exc _ _, _, _, h, _, _ => by unfold depthOk at h; cases h
 | _, .scr _, _, _, h, _, _ => by unfold depthOk at h; cases h
 | _, .rep _, _, _, h, _, _ => by unfold depthOk at h; cases h
theorem VRs.reads (I : Inv X pins σ H s) : ∀ (n : Nat) (ws : List W) (vs : List V) (us : List Value), depthsOk n ws = true -> VRs (ct N X) H Z ws vs -> Vals vs us -> ∃ as, ReadsAll s.heap us (toDs ws) as
 | n, [], vs, us, _, h, r => by
  unfold VRs at h
  subst h
  cases r
  exact ⟨_, by unfold toDs; exact .nil⟩
 | n, w :: ws, vs, us, d, h, r => by
  unfold depthsOk at d
  rw [Bool.and_eq_true] at d
  unfold VRs at h
  obtain ⟨v, t, rfl, h1, h2⟩ := h
  cases r with
  | cons r1 r2 =>
   obtain ⟨as, x⟩ := VR.reads I n w v _ d.1 h1 r1
   obtain ⟨bs, y⟩ := VRs.reads I n ws t _ d.2 h2 r2
   exact ⟨_, by unfold toDs; exact .cons x y⟩
end
end
def rOp (C : Ct) (cl : Cls) (call : Call) (o : Op) : R2 := fun x y H Q => ∃ Z0 ρ h ra rb, HR C Z0 ρ h H ∧ RR C H (Av ρ h Z0) ρ ra x ∧ RR C H (Av ρ h Z0) ρ rb y ∧ EQ C Z0 ρ h H Q (opC cl call o [ra, rb] h)
def rOpR (C : Ct) (o : Op) : R2 := fun x y H Q => ∃ Z0 ρ h ra rb, HR C Z0 ρ h H ∧ RR C H (Av ρ h Z0) ρ ra x ∧ RR C H (Av ρ h Z0) ρ rb y ∧ EQ C Z0 ρ h H Q (opR o [ra, rb] h)
theorem EQ.w2 {C : Ct} {Z0 : Addr -> Prop} {ρ : List Addr} {h : Hh} {H : Hp} {Q : VK} {o : Op} {a b : W} (q : EQ C Z0 ρ h H Q (opR o [.w a, .w b] h)) : ∃ w, opW o [a, b] = some w ∧ EQ C Z0 ρ h H Q (.ok (.w w) h) := by
 have e : opR o [.w a, .w b] h = match opW o [a, b] with | some w => .ok (.w w) h | none => .no := rfl
 rw [e] at q
 cases e2 : opW o [a, b] with
 | none => rw [e2] at q; exact q.elim
 | some w => simp_all
theorem EQ.w1 {C : Ct} {Z0 : Addr -> Prop} {ρ : List Addr} {h : Hh} {H : Hp} {Q : VK} {o : Op} {a : W} (q : EQ C Z0 ρ h H Q (opR o [.w a] h)) : ∃ w, opW o [a] = some w ∧ EQ C Z0 ρ h H Q (.ok (.w w) h) := by
 have e : opR o [.w a] h = match opW o [a] with | some w => .ok (.w w) h | none => .no := rfl
 rw [e] at q
 cases e2 : opW o [a] with
 | none => rw [e2] at q; exact q.elim
 | some w => simp_all
theorem rOpR.ws {C : Ct} {o : Op} {x y : V} {H : Hp} {Q : VK} (t : rOpR C o x y H Q) (no : ∀ (ra rb : R) (h : Hh), opH o [ra, rb] h = none) :
  ∃ Z0 ρ h a b w, HR C Z0 ρ h H ∧ VR C H (Av ρ h Z0) a x ∧ VR C H (Av ρ h Z0) b y ∧ opW o [a, b] = some w ∧ EQ C Z0 ρ h H Q (.ok (.w w) h) := by
 obtain ⟨Z0, ρ, h, ra, rb, hr, ra', rb', q⟩ := t
 cases ra with
 | loc n =>
  have e : opR o [.loc n, rb] h = match opH o [.loc n, rb] h with | some (r, h') => .ok r h' | none => .no := rfl
  rw [e, no] at q
  exact q.elim
 | w a =>
  cases rb with
  | loc n =>
   have e : opR o [.w a, .loc n] h = match opH o [.w a, .loc n] h with | some (r, h') => .ok r h' | none => .no := rfl
   rw [e, no] at q
   exact q.elim
  | w b =>
   obtain ⟨w, e, q⟩ := q.w2
   exact ⟨Z0, ρ, h, a, b, w, hr, ra', rb', e, q⟩
section
variable {X : Cx} {N : Nm}
theorem vrs_len {C : Ct} {H : Hp} {Z : Addr -> Prop} : ∀ {ws : List W} {vs : List V}, VRs C H Z ws vs -> vs.length = ws.length
 | [], vs, h => by unfold VRs at h; subst h; rfl
 | w :: ws, vs, h => by
  obtain ⟨v, r, rfl, _, h2⟩ := h
  rw [List.length_cons, List.length_cons, vrs_len h2]
theorem vrs_app {C : Ct} {H : Hp} {Z : Addr -> Prop} : ∀ {ws : List W} {vs : List V} {us : List W} {zs : List V}, VRs C H Z ws vs -> VRs C H Z us zs -> VRs C H Z (ws ++ us) (vs ++ zs)
 | [], vs, us, zs, h, h2 => by unfold VRs at h; subst h; exact h2
 | w :: ws, vs, us, zs, h, h2 => by
  obtain ⟨v, r, rfl, h1, h3⟩ := h
  exact ⟨v, _, rfl, h1, vrs_app h3 h2⟩
theorem vrs_get {C : Ct} {H : Hp} {Z : Addr -> Prop} : ∀ {ws : List W} {vs : List V} {i : Nat} {w : W}, VRs C H Z ws vs -> ws[i]? = some w -> ∃ v, vs[i]? = some v ∧ VR C H Z w v
 | [], _, _, _, _, e => by simp_all
 | x :: ws, vs, i, w, h, e => by
  obtain ⟨v, r, rfl, h1, h3⟩ := h
  cases i with
  | zero => simp_all
  | succ i =>
   obtain ⟨u, e1, r1⟩ := vrs_get (i := i) h3 (by simpa using e)
   simp_all
theorem o_add : OpR X (binaryOp .Add) (rOpR (ct N X) .add) := by
 intro pins s σ H x y v u Q I rx ry t
 obtain ⟨Z0, ρ, h, a, b, w, hr, va, vb, e, q⟩ := t.ws fun _ _ _ => rfl
 cases a with
 | int i =>
  cases b with
  | int j =>
   cases e
   exact L2.op_add pins s σ H x y v u Q I rx ry ⟨i, j, vr_int va, vr_int vb, q.val (w := .int (i + j)) hr (by unfold VR; rfl)⟩
  | _ => cases e
 | str i =>
  cases b with
  | str j =>
   have e : (if i.length + j.length <= sizeMax then some (W.str (i ++ j)) else none) = some w := e
   split at e
   ·rename_i hz
    cases e
    exact op_add_str pins s σ H x y v u Q I rx ry ⟨tx i, tx j, vr_str va, vr_str vb, by rw [tx_len]; exact sz_line hz, q.val (w := .str (i ++ j)) hr (by unfold VR; rw [tx_app])⟩
   ·cases e
  | _ => cases e
 | tup i =>
  cases b with
  | tup j =>
   have e : (if i.length + j.length <= sizeMax then some (W.tup (i ++ j)) else none) = some w := e
   split at e
   ·rename_i hz
    cases e
    obtain ⟨pa, vs, rfl, sa, ha⟩ := va
    obtain ⟨pb, zs, rfl, sb, hb⟩ := vb
    refine n_cat pins s σ H _ _ v u Q I rx ry ⟨pa, pb, vs, zs, rfl, rfl, sa.t, sb.t, by rw [vrs_len ha, vrs_len hb]; exact sz_line hz, fun n => ?_, fun _ n => ?_, fun _ _ p o hp ho => ?_⟩
    ·subst n
     exact q.val hr (by unfold VR; exact ⟨pb, zs, rfl, sb, by have := vrs_app ha hb; simpa using this⟩)
    ·subst n
     exact q.val hr (by unfold VR; exact ⟨pa, vs, rfl, sa, by have := vrs_app ha hb; simpa using this⟩)
    ·exact q.new hr hp (by unfold VR; exact ⟨p, vs ++ zs, rfl, ⟨o, upd_same, ho⟩, VRs.ex (Ex.fresh hr hp) (vrs_app ha hb)⟩)
   ·cases e
  | _ => cases e
 | lst i =>
  cases b with
  | lst j =>
   have e : (if i.length + j.length <= sizeMax then some (W.lst (i ++ j)) else none) = some w := e
   split at e
   ·rename_i hz
    cases e
    obtain ⟨pa, vs, rfl, sa, na, ha⟩ := va
    obtain ⟨pb, zs, rfl, sb, nb, hb⟩ := vb
    refine op_cat pins s σ H _ _ v u Q I rx ry ⟨pa, pb, vs, zs, rfl, rfl, sa, sb, by rw [vrs_len ha, vrs_len hb]; exact sz_line hz, fun p hp => ?_⟩
    exact q.new hr hp (by unfold VR; exact ⟨p, vs ++ zs, rfl, upd_same, hr.new hp, VRs.ex (Ex.fresh hr hp) (vrs_app ha hb)⟩)
   ·cases e
  | _ => cases e
 | _ => cases e
theorem o_int {f : Value -> Value -> Sem Value} {o : Op} {D : Int -> Int -> Prop} {g : Int -> Int -> V} (rule : OpR X f (rI D g)) (no : ∀ (ra rb : R) (h : Hh), opH o [ra, rb] h = none)
  (k : ∀ a b w, opW o [a, b] = some w -> ∃ i j, a = .int i ∧ b = .int j ∧ D i j ∧ ∀ C H Z, VR C H Z w (g i j)) : OpR X f (rOpR (ct N X) o) := by
 intro pins s σ H x y v u Q I rx ry t
 obtain ⟨Z0, ρ, h, a, b, w, hr, va, vb, e, q⟩ := t.ws no
 obtain ⟨i, j, rfl, rfl, d, r⟩ := k a b w e
 exact rule pins s σ H x y v u Q I rx ry ⟨i, j, vr_int va, vr_int vb, d, q.val hr (r _ _ _)⟩
theorem o_int0 {f : Value -> Value -> Sem Value} {o : Op} {g : Int -> Int -> V} (rule : OpR X f (rI0 g)) (no : ∀ (ra rb : R) (h : Hh), opH o [ra, rb] h = none)
  (k : ∀ a b w, opW o [a, b] = some w -> ∃ i j, a = .int i ∧ b = .int j ∧ ∀ C H Z, VR C H Z w (g i j)) : OpR X f (rOpR (ct N X) o) := by
 intro pins s σ H x y v u Q I rx ry t
 obtain ⟨Z0, ρ, h, a, b, w, hr, va, vb, e, q⟩ := t.ws no
 obtain ⟨i, j, rfl, rfl, r⟩ := k a b w e
 exact rule pins s σ H x y v u Q I rx ry ⟨i, j, vr_int va, vr_int vb, q.val hr (r _ _ _)⟩
theorem vr_int_i {C : Ct} {H : Hp} {Z : Addr -> Prop} {i : Int} : VR C H Z (.int i) (.int i) := by unfold VR; rfl
theorem vr_bl_i {C : Ct} {H : Hp} {Z : Addr -> Prop} {i : Bool} : VR C H Z (.bl i) (.bl i) := by unfold VR; rfl
theorem o_sub : OpR X (binaryOp .Sub) (rOpR (ct N X) .sub) := o_int0 L2.op_sub (fun _ _ _ => rfl) fun a b w e => by
 cases a <;> cases b <;> first | (cases e; done) | (cases e; exact ⟨_, _, rfl, rfl, fun _ _ _ => vr_int_i⟩)
theorem o_mul : OpR X (binaryOp .Mult) (rOpR (ct N X) .mul) := o_int op_mulW (fun _ _ _ => rfl) fun a b w e => by
 cases a <;> cases b <;> first | (cases e; done) | skip
 rename_i i j
 have e : (if bitsOk i j = true then some (W.int (i * j)) else none) = some w := e
 split at e
 ·rename_i hb
  cases e
  exact ⟨_, _, rfl, rfl, Nat.le_of_ble_eq_true hb, fun _ _ _ => vr_int_i⟩
 ·cases e
theorem o_fdiv : OpR X (binaryOp .FloorDiv) (rOpR (ct N X) .fdiv) := o_int op_fdivW (fun _ _ _ => rfl) fun a b w e => by
 cases a <;> cases b <;> first | (cases e; done) | skip
 rename_i i j
 have e : (if (decide (0 < j) && Nat.blt j.natAbs.log2 9000) = true then some (W.int (i / j)) else none) = some w := e
 split at e
 ·rename_i hb
  cases e
  rw [Bool.and_eq_true, decide_eq_true_eq] at hb
  exact ⟨_, _, rfl, rfl, ⟨hb.1, Nat.le_of_ble_eq_true hb.2⟩, fun _ _ _ => vr_int_i⟩
 ·cases e
theorem o_mod : OpR X (binaryOp .Mod) (rOpR (ct N X) .mod) := o_int L2.op_mod (fun _ _ _ => rfl) fun a b w e => by
 cases a <;> cases b <;> first | (cases e; done) | skip
 rename_i i j
 have e : (if 0 < j then some (W.int (i % j)) else none) = some w := e
 split at e
 ·rename_i hb
  cases e
  exact ⟨_, _, rfl, rfl, hb, fun _ _ _ => vr_int_i⟩
 ·cases e
theorem op_powW : OpR X (binaryOp .Pow) (rI (fun i j => (0 <= j ∧ j <= 1000) ∧ i.natAbs.log2 < 10000) fun i j => .int (i ^ j.toNat)) := opI fun i j t u Q s E hc q => by
 refine PyProof.Rows.pow_int hc.1.1 ?_ q
 have b : Builtin.Int.intBits i <= i.natAbs.log2 + 1 := by
  unfold Builtin.Int.intBits
  split <;> omega
 have h1 := hc.1.2
 have h2 := hc.2
 have h3 : (Builtin.Int.intBits i : Int) <= 10000 := by omega
 have h4 : (Builtin.Int.intBits i : Int) * j <= 10000 * 1000 := Int.mul_le_mul h3 h1 hc.1.1 (by decide)
 omega
theorem o_pow : OpR X (binaryOp .Pow) (rOpR (ct N X) .pow) := o_int op_powW (fun _ _ _ => rfl) fun a b w e => by
 cases a <;> cases b <;> first | (cases e; done) | skip
 rename_i i j
 have e : (if (decide (0 <= j ∧ j <= 1000) && Nat.blt i.natAbs.log2 10000) = true then some (W.int (i ^ j.toNat)) else none) = some w := e
 split at e
 ·rename_i hb
  cases e
  rw [Bool.and_eq_true, decide_eq_true_eq] at hb
  exact ⟨_, _, rfl, rfl, ⟨hb.1, Nat.le_of_ble_eq_true hb.2⟩, fun _ _ _ => vr_int_i⟩
 ·cases e
theorem o_lt : OpR X (compareOp .Lt) (rOpR (ct N X) .lt) := o_int0 L2.op_lt (fun _ _ _ => rfl) fun a b w e => by
 cases a <;> cases b <;> first | (cases e; done) | (cases e; exact ⟨_, _, rfl, rfl, fun _ _ _ => vr_bl_i⟩)
theorem o_gt : OpR X (compareOp .Gt) (rOpR (ct N X) .gt) := o_int0 L2.op_gt (fun _ _ _ => rfl) fun a b w e => by
 cases a <;> cases b <;> first | (cases e; done) | (cases e; exact ⟨_, _, rfl, rfl, fun _ _ _ => vr_bl_i⟩)
end
end Tf
namespace Tf
open PySem L2 PyProof.Rows
section
variable {X : Cx} {N : Nm}
theorem ifs {α : Type} {c : Bool} {a w : α} (e : (if c = true then some a else none) = some w) : c = true ∧ a = w := by
 simp_all
theorem and2 {a b : Bool} (h : (a && b) = true) : a = true ∧ b = true := by simp_all
mutual
theorem wid_toD : ∀ (a b : W), wid a b = true -> toD a = toD b
 | .non, b, h => by cases b <;> first | rfl | (unfold wid at h; cases h; done)
 | .bl x, b, h => by
  cases b <;> first | (unfold wid at h; cases h; done) | skip
  rename_i y; unfold wid at h; rw [beq_iff_eq.mp h]
 | .int x, b, h => by
  cases b <;> first | (unfold wid at h; cases h; done) | skip
  unfold wid at h; rw [of_decide_eq_true h]
 | .str x, b, h => by
  cases b <;> first | (unfold wid at h; cases h; done) | skip
  unfold wid at h; rw [of_decide_eq_true h]
 | .tup x, b, h => by
  cases b <;> first | (unfold wid at h; cases h; done) | skip
  unfold wid at h; unfold toD; rw [wids_toD _ _ h]
 | .lst x, b, h => by
  cases b <;> first | (unfold wid at h; cases h; done) | skip
  unfold wid at h; unfold toD; rw [wids_toD _ _ h]
 | .dct _ _, b, h => by cases b <;> (unfold wid at h; cases h)
 | .ins _ _ _, b, h => by cases b <;> (unfold wid at h; cases h)
 | .exc _ _, b, h => by cases b <;> (unfold wid at h; cases h)
 | .scr _, b, h => by cases b <;> (unfold wid at h; cases h)
 | .rep _, b, h => by cases b <;> (unfold wid at h; cases h)
theorem wids_toD : ∀ (a b : List W), wids a b = true -> toDs a = toDs b
 | [], [], _ => rfl
 | [], _ :: _, h => by unfold wids at h; cases h
 | _ :: _, [], h => by unfold wids at h; cases h
 | x :: xs, y :: ys, h => by
  unfold wids at h
  rw [Bool.and_eq_true] at h
  unfold toDs
  rw [wid_toD _ _ h.1, wids_toD _ _ h.2]
end
theorem sh_eqv (a b : W) (h : wid a b = true) : (toD a).shown = (toD b).shown := by rw [wid_toD a b h]
theorem o_eqR (hu : X.A.units + 64 < cLine) : OpR X (compareOp .Eq) (rOpR (ct N X) .eq) := by
 intro pins s σ H x y v u Q I rx ry t
 obtain ⟨Z0, ρ, h, a, b, w, hr, va, vb, e, q⟩ := t.ws fun _ _ _ => rfl
 have e : op_eq [a, b] = some w := e
 by_cases hrep : ∃ c d, a = .rep c ∧ b = .rep d
 ·obtain ⟨c, d, rfl, rfl⟩ := hrep
  obtain ⟨hw, rfl⟩ := ifs e
  subst va vb
  refine L2.op_eq pins s σ H _ _ v u Q I rx ry ⟨rfl, ?_⟩
  rw [sh_eqv c d hw, decide_eq_true rfl]
  exact q.val hr vr_bl_i
 ·have e : (if (depthOk 40 a && depthOk 40 b) = true then some (W.bl (weq a b)) else none) = some w := by
   unfold op_eq at e
   simp_all
  obtain ⟨hd, rfl⟩ := ifs e
  obtain ⟨d1, d2⟩ := and2 hd
  obtain ⟨as, r1⟩ := VR.reads I 40 a x v d1 va rx
  obtain ⟨bs, r2⟩ := VR.reads I 40 b y u d2 vb ry
  obtain ⟨p1, z1⟩ := toD_plain 40 a d1
  obtain ⟨p2, z2⟩ := toD_plain 40 b d2
  refine SeqAt.eq_plain r1 r2 p1 p2 (by omega) ⟨.bl (weq a b), H, I, ?_, q.val hr vr_bl_i⟩
  rw [toD_eqv 40 40 a b d1 d2]
  rfl
theorem o_neR (hu : X.A.units + 64 < cLine) : OpR X (compareOp .NotEq) (rOpR (ct N X) .ne) := by
 intro pins s σ H x y v u Q I rx ry t
 obtain ⟨Z0, ρ, h, a, b, w, hr, va, vb, e, q⟩ := t.ws fun _ _ _ => rfl
 have e : op_ne [a, b] = some w := e
 by_cases hrep : ∃ c d, a = .rep c ∧ b = .rep d
 ·obtain ⟨c, d, rfl, rfl⟩ := hrep
  obtain ⟨hw, rfl⟩ := ifs e
  subst va vb
  refine L2.op_ne pins s σ H _ _ v u Q I rx ry ⟨rfl, ?_⟩
  rw [sh_eqv c d hw, decide_eq_true rfl]
  exact q.val hr vr_bl_i
 ·have e : (if (depthOk 40 a && depthOk 40 b) = true then some (W.bl (!weq a b)) else none) = some w := by
   unfold op_ne at e
   simp_all
  obtain ⟨hd, rfl⟩ := ifs e
  obtain ⟨d1, d2⟩ := and2 hd
  obtain ⟨as, r1⟩ := VR.reads I 40 a x v d1 va rx
  obtain ⟨bs, r2⟩ := VR.reads I 40 b y u d2 vb ry
  obtain ⟨p1, z1⟩ := toD_plain 40 a d1
  obtain ⟨p2, z2⟩ := toD_plain 40 b d2
  refine SeqAt.ne_plain r1 r2 p1 p2 (by omega) ⟨.bl (!weq a b), H, I, ?_, q.val hr vr_bl_i⟩
  rw [toD_eqv 40 40 a b d1 d2]
  rfl
end
section
variable {C : Ct} {H : Hp} {Z : Addr -> Prop}
theorem atI_l2 {α : Type} {xs : List α} {i : Int} {x : α} (e : Tf.atI xs i = some x) : L2.atI xs i = some x := by
 unfold Tf.atI at e
 unfold L2.atI L2.ixN
 grind
theorem vrs_at {ws : List W} {vs : List V} {i : Int} {w : W} (h : VRs C H Z ws vs) (e : Tf.atI ws i = some w) : ∃ v, L2.atI vs i = some v ∧ VR C H Z w v := by
 have hl := vrs_len h
 unfold Tf.atI at e
 split at e
 ·rename_i h0
  obtain ⟨v, e1, r⟩ := vrs_get h e
  exact ⟨v, atI_l2 (by unfold Tf.atI; rw [if_pos h0]; exact e1), r⟩
 ·rename_i h0
  split at e
  ·rename_i h1
   obtain ⟨v, e1, r⟩ := vrs_get h e
   exact ⟨v, atI_l2 (by unfold Tf.atI; rw [if_neg h0, if_pos (by rw [hl]; exact h1), hl]; exact e1), r⟩
  ·cases e
theorem rrs_len {ρ : List Addr} : ∀ {rs : List R} {vs : List V}, RRs C H Z ρ rs vs -> vs.length = rs.length
 | [], vs, h => by unfold RRs at h; subst h; rfl
 | w :: ws, vs, h => by
  obtain ⟨v, r, rfl, _, h2⟩ := h
  rw [List.length_cons, List.length_cons, rrs_len h2]
theorem rrs_get {ρ : List Addr} : ∀ {rs : List R} {vs : List V} {i : Nat} {w : R}, RRs C H Z ρ rs vs -> rs[i]? = some w -> ∃ v, vs[i]? = some v ∧ RR C H Z ρ w v
 | [], _, _, _, _, e => by simp_all
 | x :: ws, vs, i, w, h, e => by
  obtain ⟨v, r, rfl, h1, h3⟩ := h
  cases i with
  | zero => simp_all
  | succ i =>
   obtain ⟨u, e1, r1⟩ := rrs_get (i := i) h3 (by simpa using e)
   simp_all
theorem rrs_at {ρ : List Addr} {ws : List R} {vs : List V} {i : Int} {w : R} (h : RRs C H Z ρ ws vs) (e : Tf.atI ws i = some w) : ∃ v, L2.atI vs i = some v ∧ RR C H Z ρ w v := by
 have hl := rrs_len h
 unfold Tf.atI at e
 split at e
 ·rename_i h0
  obtain ⟨v, e1, r⟩ := rrs_get h e
  exact ⟨v, atI_l2 (by unfold Tf.atI; rw [if_pos h0]; exact e1), r⟩
 ·rename_i h0
  split at e
  ·rename_i h1
   obtain ⟨v, e1, r⟩ := rrs_get h e
   exact ⟨v, atI_l2 (by unfold Tf.atI; rw [if_neg h0, if_pos (by rw [hl]; exact h1), hl]; exact e1), r⟩
  ·cases e
end
end Tf
namespace Tf
open PySem L2 PyProof.Rows
theorem nks_map : ∀ ws : List W, nk.nks ws = ws.map nk
 | [] => rfl
 | w :: ws => by rw [nk.nks, nks_map ws]; rfl
theorem keyOk_tup {n : Nat} {ws : List W} (h : keyOk n (.tup ws) = true) : ∃ m, n = m + 1 ∧ ∀ w ∈ ws, keyOk m w = true := by
 cases n with
 | zero => unfold keyOk at h; cases h
 | succ m =>
  unfold keyOk at h
  simp_all
mutual
theorem nk_weq : ∀ (n m : Nat) (a b : W), keyOk n a = true -> keyOk m b = true -> (weq a b = true ↔ nk a = nk b)
 | n, m, .non, b, _, hb => by cases b <;> first | (unfold keyOk at hb; cases hb; done) | (unfold weq nk; simp)
 | n, m, .bl x, b, _, hb => by
  cases b <;> first | (unfold keyOk at hb; cases hb; done) | skip
  all_goals unfold weq nk
  all_goals first | (simp; done) | skip
  ·rename_i y; cases x <;> cases y <;> simp
  ·unfold b2i; rw [decide_eq_true_eq]; exact ⟨fun e => by rw [<- e], fun e => by injection e⟩
 | n, m, .int x, b, _, hb => by
  cases b <;> first | (unfold keyOk at hb; cases hb; done) | skip
  all_goals unfold weq nk
  all_goals first | (simp; done) | skip
  ·unfold b2i; rw [decide_eq_true_eq]; exact ⟨fun e => by rw [<- e], fun e => by injection e⟩
 | n, m, .str x, b, _, hb => by
  cases b <;> first | (unfold keyOk at hb; cases hb; done) | skip
  all_goals unfold weq nk
  all_goals first | (simp; done) | skip
  ·rw [decide_eq_true_eq]; exact ⟨fun e => by rw [e], fun e => by injection e with e; exact tx_inj.mp e⟩
 | n, m, .tup xs, b, ha, hb => by
  obtain ⟨n', rfl, hx⟩ := keyOk_tup ha
  cases b <;> first | (unfold keyOk at hb; cases hb; done) | skip
  all_goals unfold weq nk
  all_goals first | (simp; done) | skip
  ·rename_i ys
   have hb' : keyOk m (.tup ys) = true := hb
   obtain ⟨m', rfl, hy⟩ := keyOk_tup hb'
   rw [nks_map, nks_map, nks_weq n' m' xs ys hx hy]
   exact ⟨fun e => by rw [e], fun e => by injection e⟩
 | n, m, .lst _, b, ha, hb => by unfold keyOk at ha; cases ha
 | n, m, .dct _ _, b, ha, hb => by unfold keyOk at ha; cases ha
 | n, m, .ins _ _ _, b, ha, hb => by unfold keyOk at ha; cases ha
 | n, m, .exc _ _, b, ha, hb => by unfold keyOk at ha; cases ha
 | n, m, .scr _, b, ha, hb => by unfold keyOk at ha; cases ha
 | n, m, .rep _, b, ha, hb => by unfold keyOk at ha; cases ha
theorem nks_weq : ∀ (n m : Nat) (a b : List W), (∀ w ∈ a, keyOk n w = true) -> (∀ w ∈ b, keyOk m w = true) -> (weqs a b = true ↔ a.map nk = b.map nk)
 | n, m, [], [], _, _ => by unfold weqs; simp
 | n, m, [], _ :: _, _, _ => by unfold weqs; simp
 | n, m, _ :: _, [], _, _ => by unfold weqs; simp
 | n, m, x :: xs, y :: ys, ha, hb => by
  unfold weqs
  rw [Bool.and_eq_true, nk_weq n m x y (ha x (by simp)) (hb y (by simp)), nks_weq n m xs ys (fun w hw => ha w (by simp [hw])) (fun w hw => hb w (by simp [hw])), List.map_cons, List.map_cons, List.cons.injEq]
end
section
variable {α : Type} {x : W} {y : α}
theorem find_no : ∀ {ks : List W}, (∀ k ∈ ks, weq k x = false) -> dhas ks x = false ∧ (∀ (vs : List α), dfind ks vs x = none) ∧ ∀ (vs : List α), vs.length = ks.length -> dput ks vs x y = (ks ++ [x], vs ++ [y])
 | [], _ => ⟨rfl, fun _ => rfl, fun vs h => by
  have : vs = [] := by simp_all
  subst this; rfl⟩
 | k :: ks, h => by
  obtain ⟨a, b, c⟩ := find_no (ks := ks) fun z hz => h z (by simp [hz])
  have hk := h k (by simp)
  refine ⟨by unfold dhas; rw [hk, a]; rfl, fun vs => ?_, fun vs hl => ?_⟩
  ·cases vs with
   | nil => rfl
   | cons v vs => unfold dfind; rw [hk]; exact b vs
  ·cases vs with
   | nil => simp at hl
   | cons v vs =>
    unfold dput
    simp_all
theorem find_at : ∀ {ks : List W} {j : Nat} {k : W}, ks[j]? = some k -> weq k x = true -> (∀ i k', i < j -> ks[i]? = some k' -> weq k' x = false) ->
  dhas ks x = true ∧ (∀ (vs : List α), vs.length = ks.length -> dfind ks vs x = vs[j]?) ∧ ∀ (vs : List α), vs.length = ks.length -> dput ks vs x y = (ks, vs.set j y)
 | [], j, k, h, _, _ => by simp at h
 | k0 :: ks, 0, k, h, e, _ => by
  have : k0 = k := by grind
  subst this
  refine ⟨by unfold dhas; rw [e]; rfl, fun vs hl => ?_, fun vs hl => ?_⟩
  ·cases vs with
   | nil => simp at hl
   | cons v vs => unfold dfind; rw [e]; rfl
  ·cases vs with
   | nil => simp at hl
   | cons v vs => unfold dput; rw [e]; rfl
 | k0 :: ks, j + 1, k, h, e, n => by
  have h' : ks[j]? = some k := by simp_all
  obtain ⟨a, b, c⟩ := find_at (ks := ks) h' e fun i k' hi hk => n (i + 1) k' (by omega) (by simpa using hk)
  have hk := n 0 k0 (by omega) (by simp)
  refine ⟨by unfold dhas; rw [hk, a]; rfl, fun vs hl => ?_, fun vs hl => ?_⟩
  ·cases vs with
   | nil => simp at hl
   | cons v vs =>
    unfold dfind
    simp_all
  ·cases vs with
   | nil => simp at hl
   | cons v vs =>
    unfold dput
    rw [hk, c vs (by simpa using hl)]
    rfl
theorem told_no {ks : List W} (hk : ks.all (keyOk 8) = true) (hx : keyOk 8 x = true) (h : nk x ∉ ks.map nk) : ∀ k ∈ ks, weq k x = false := fun k hm => by
 cases e : weq k x with
 | false => rfl
 | true => exact absurd (List.mem_map.mpr ⟨k, hm, (nk_weq 8 8 k x (List.all_eq_true.mp hk k hm) hx).mp e⟩) h
theorem told_at {ks : List W} (hk : ks.all (keyOk 8) = true) (hx : keyOk 8 x = true) (nd : (ks.map nk).Nodup) {j : Nat} (h : (ks.map nk)[j]? = some (nk x)) : ∃ k, ks[j]? = some k ∧ weq k x = true ∧ ∀ i k', i < j -> ks[i]? = some k' -> weq k' x = false := by
 cases e : ks[j]? with
 | none => simp_all
 | some k =>
  have hkx : nk k = nk x := by simp_all
  refine ⟨k, rfl, (nk_weq 8 8 k x (List.all_eq_true.mp hk k (List.mem_of_getElem? e)) hx).mpr hkx, fun i k' hi hk' => ?_⟩
  cases e2 : weq k' x with
  | false => rfl
  | true =>
   have := (nk_weq 8 8 k' x (List.all_eq_true.mp hk k' (List.mem_of_getElem? hk')) hx).mp e2
   have h1 : (ks.map nk)[i]? = some (nk x) := by simp_all
   have h2 : (ks.map nk)[j]? = some (nk x) := by simp_all
   exact absurd (TfD.nodup_at nd h1 h2) (by omega)
end
theorem nk_depth : ∀ (n : Nat) (w : W), keyOk n w = true -> (nk w).depth <= n
 | n, .non, _ => by unfold nk NestedKey.depth; exact Nat.zero_le _
 | n, .bl _, _ => by unfold nk NestedKey.depth; exact Nat.zero_le _
 | n, .int _, _ => by unfold nk NestedKey.depth; exact Nat.zero_le _
 | n, .str _, _ => by unfold nk NestedKey.depth; exact Nat.zero_le _
 | 0, .tup ws, h => by unfold keyOk at h; cases h
 | n + 1, .tup ws, h => by
  obtain ⟨m, e, hw⟩ := keyOk_tup h
  have e : n = m := by omega
  subst e
  unfold nk NestedKey.depth
  rw [nks_map]
  have : ∀ l : List W, (∀ w ∈ l, keyOk n w = true) -> NestedKey.depthAll (l.map nk) <= n := by
   intro l
   induction l with
   | nil => intro _; exact Nat.zero_le _
   | cons a l ih =>
    intro hl
    have h1 := nk_depth n a (hl a (by simp))
    have h2 := ih fun w hw => hl w (by simp [hw])
    rw [List.map_cons]
    unfold NestedKey.depthAll
    omega
  simp_all
 | _, .lst _, h => by unfold keyOk at h; cases h
 | _, .dct _ _, h => by unfold keyOk at h; cases h
 | _, .ins _ _ _, h => by unfold keyOk at h; cases h
 | _, .exc _ _, h => by unfold keyOk at h; cases h
 | _, .scr _, h => by unfold keyOk at h; cases h
 | _, .rep _, h => by unfold keyOk at h; cases h
section
variable {X : Cx} {N : Nm} {pins : List (Addr × Obj)} {σ : Sg} {H : Hp} {s : Shared} {Z : Addr -> Prop}
theorem VR.nested (I : Inv X pins σ H s) : ∀ (n : Nat) (w : W) (v : V) (u : Value), keyOk n w = true -> VR (ct N X) H Z w v -> RelV v u -> NestedIs s.heap (nk w) u
 | n, .non, v, u, _, h, r => by
  have := vr_non h
  subst this
  cases r
  unfold nk; exact .none
 | n, .bl b, v, u, _, h, r => by
  have := vr_bl h
  subst this
  cases r
  unfold nk; exact .bool rfl
 | n, .int i, v, u, _, h, r => by
  have := vr_int h
  subst this
  obtain ⟨t, rfl⟩ := r
  unfold nk; exact .int i t
 | n, .str x, v, u, _, h, r => by
  have := vr_str h
  subst this
  obtain ⟨t, rfl⟩ := r
  unfold nk; exact .text _ t
 | 0, .tup ws, _, _, h, _, _ => by unfold keyOk at h; cases h
 | n + 1, .tup ws, v, u, d, h, r => by
  obtain ⟨m, e, hw⟩ := keyOk_tup d
  have e : n = m := by omega
  subst e
  obtain ⟨a, vs, rfl, hs, hr⟩ := h
  cases r
  obtain ⟨its, rv, ⟨o, ho, hc, m, hd⟩, _⟩ := I.tuple hs.t
  have all : ∀ (l : List W) (vs : List V) (us : List Value), (∀ w ∈ l, keyOk n w = true) -> VRs (ct N X) H Z l vs -> Vals vs us -> NestedAll s.heap (l.map nk) us := by
   intro l
   induction l with
   | nil => intro vs us _ h1 h2; unfold VRs at h1; subst h1; cases h2; exact .nil
   | cons a l ih =>
    intro vs us hl h1 h2
    obtain ⟨v, t, rfl, p, q⟩ := h1
    cases h2 with
    | cons r1 r2 => exact .cons (VR.nested I n a v _ (hl a (by simp)) p r1) (ih t _ (fun w hw => hl w (by simp [hw])) q r2)
  unfold nk
  rw [nks_map]
  exact .tup ho hc hd (by simpa using all ws vs its hw hr rv)
 | _, .lst _, _, _, h, _, _ => by unfold keyOk at h; cases h
 | _, .dct _ _, _, _, h, _, _ => by unfold keyOk at h; cases h
 | _, .ins _ _ _, _, _, h, _, _ => by unfold keyOk at h; cases h
 | _, .exc _ _, _, _, h, _, _ => by unfold keyOk at h; cases h
 | _, .scr _, _, _, h, _, _ => by unfold keyOk at h; cases h
 | _, .rep _, _, _, h, _, _ => by unfold keyOk at h; cases h
theorem VR.key (I : Inv X pins σ H s) {w : W} {v : V} {u : Value} (d : keyOk 8 w = true) (h : VR (ct N X) H Z w v) (r : RelV v u) : TfD.KeyV s.heap (nk w) u := ⟨VR.nested I 8 w v u d h r, nk_depth 8 w d⟩
theorem ents_at {w : World} : ∀ {ks : List W} {us zs : List Value} {j : Nat} {k : W} {u z : Value}, ks[j]? = some k -> us[j]? = some u -> zs[j]? = some z -> (ents w ks us zs)[j]? = some ⟨(nk k).hash w, u, z⟩
 | k0 :: ks, u0 :: us, z0 :: zs, 0, k, u, z, h1, h2, h3 => by
  simp at h1 h2 h3
  subst h1 h2 h3
  rfl
 | k0 :: ks, u0 :: us, z0 :: zs, j + 1, k, u, z, h1, h2, h3 => ents_at (ks := ks) (by simpa using h1) (by simpa using h2) (by simpa using h3)
 | [], _, _, _, _, _, _, h, _, _ => by simp_all
 | _ :: _, [], _, _, _, _, _, _, h, _ => by simp_all
 | _ :: _, _ :: _, [], _, _, _, _, _, _, h => by simp_all
theorem ents_len {w : World} : ∀ {ks : List W} {us zs : List Value}, us.length = ks.length -> zs.length = ks.length -> (ents w ks us zs).length = ks.length
 | [], [], [], _, _ => rfl
 | k :: ks, u :: us, z :: zs, h1, h2 => by
  unfold ents
  rw [List.length_cons, List.length_cons, ents_len (by simpa using h1) (by simpa using h2)]
 | [], _ :: _, _, h, _ => by simp_all
 | [], [], _ :: _, _, h => by simp_all
 | _ :: _, [], _, h, _ => by simp_all
 | _ :: _, _ :: _, [], _, h => by simp_all
theorem ents_set {w : World} {y : Value} : ∀ {ks : List W} {us zs : List Value} {j : Nat}, us.length = ks.length -> zs.length = ks.length -> (ents w ks us zs).modify j (fun e => { e with val := y }) = ents w ks us (zs.set j y)
 | [], [], [], _, _, _ => by unfold ents; simp
 | k :: ks, u :: us, z :: zs, 0, _, _ => by unfold ents; simp
 | k :: ks, u :: us, z :: zs, j + 1, h1, h2 => by
  have := ents_set (w := w) (y := y) (ks := ks) (us := us) (zs := zs) (j := j) (by simpa using h1) (by simpa using h2)
  show (_ :: ents w ks us zs).modify (j + 1) _ = _ :: ents w ks us (zs.set j y)
  simp_all
 | [], _ :: _, _, _, h, _ => by simp_all
 | [], [], _ :: _, _, _, h => by simp_all
 | _ :: _, [], _, _, h, _ => by simp_all
 | _ :: _, _ :: _, [], _, _, h => by simp_all
theorem ents_app {w : World} {k : W} {u z : Value} : ∀ {ks : List W} {us zs : List Value}, us.length = ks.length -> zs.length = ks.length -> ents w ks us zs ++ [⟨(nk k).hash w, u, z⟩] = ents w (ks ++ [k]) (us ++ [u]) (zs ++ [z])
 | [], [], [], _, _ => rfl
 | k :: ks, u :: us, z :: zs, h1, h2 => by
  show _ :: (ents w ks us zs ++ _) = _ :: ents w (ks ++ _) (us ++ _) (zs ++ _)
  rw [ents_app (ks := ks) (by simpa using h1) (by simpa using h2)]
 | [], _ :: _, _, h, _ => by simp_all
 | [], [], _ :: _, _, h => by simp_all
 | _ :: _, [], _, h, _ => by simp_all
 | _ :: _, _ :: _, [], _, h => by simp_all
structure DictIs (X : Cx) (s : Shared) (a : Addr) (ks : List W) (kv vv : List V) (o : Obj) (es : Array DictEntry) (ep : Nat) (us zs : List Value) : Prop where
 d : TfD.DAt X.w s.heap a o es ep (ks.map nk)
 vk : Vals kv us
 vz : Vals vv zs
 lk : us.length = ks.length
 lz : zs.length = ks.length
 el : es.toList = ents X.w ks us zs
 nd : (ks.map nk).Nodup
 ok : ks.all (keyOk 8) = true
 sz : ks.length <= sizeLine
theorem DictIs.size {a : Addr} {ks : List W} {kv vv : List V} {o : Obj} {es : Array DictEntry} {ep : Nat} {us zs : List Value} (D : DictIs X s a ks kv vv o es ep us zs) : es.size = ks.length := by
 rw [<- Array.length_toList, D.el, ents_len D.lk D.lz]
theorem dict_is (I : Inv X pins σ H s) {a : Addr} {ks : List W} {kv vv : List V} (e : IsD H X.w a ks kv vv) (hk : VRs (ct N X) H Z ks kv) : ∃ o es ep us zs, DictIs X s a ks kv vv o es ep us zs := by
 obtain ⟨o, e⟩ := e
 obtain ⟨⟨es, ep, us, zs, ho, hx, hd, hs, hv, hz, l1, l2, he, nd, ok, sz⟩, _⟩ := (show ObjOk X.prog X.w H s.heap a (dictO X.w a o ks kv vv) from I.hok a _ e)
 have hl : es.size = ks.length := by rw [<- Array.length_toList, he, ents_len l1 l2]
 refine ⟨o, es, ep, us, zs, ⟨ho, hx, hd, hs, ⟨by rw [List.length_map, hl], fun j ent x h1 h2 => ?_, nd⟩⟩, hv, hz, l1, l2, he, nd, ok, sz⟩
 rw [List.getElem?_map] at h2
 cases e1 : ks[j]? with
 | none => grind
 | some k =>
  rw [e1] at h2
  have hx : nk k = x := Option.some.inj h2
  have hj : j < ks.length := (List.getElem?_eq_some_iff.mp e1).1
  have hu : us[j]? = some us[j] := by simp_all
  have hz2 : zs[j]? = some zs[j] := List.getElem?_eq_getElem (by omega)
  rw [<- Array.getElem?_toList, he, ents_at e1 hu hz2] at h1
  have h1 := Option.some.inj h1
  subst h1 hx
  obtain ⟨v, hv1, r1⟩ := vrs_get hk e1
  obtain ⟨u, hu1, r2⟩ := hv.get hv1
  rw [hu] at hu1
  cases hu1
  have kk := VR.key I (List.all_eq_true.mp ok k (List.mem_of_getElem? e1)) r1 r2
  exact ⟨rfl, kk.is, kk.dp⟩
end
end Tf
namespace Tf
open PySem L2 PyProof.Rows
section
variable {X : Cx} {N : Nm} {pins : List (Addr × Obj)} {σ : Sg} {H : Hp} {s : Shared} {Z : Addr -> Prop}
theorem dict_item {α : Type} {Rel : α -> V -> Prop} (I : Inv X pins σ H s) (hu : X.A.units + 64 < cLine) {a : Addr} {ks : List W} {kv vv : List V} (e : IsD H X.w a ks kv vv) (hk : VRs (ct N X) H Z ks kv) {us : List α}
  (hl : us.length = ks.length) (rel : ∀ (j : Nat) (r : α), us[j]? = some r -> ∃ v, vv[j]? = some v ∧ Rel r v) {x : W} {xv : V} {u : Value} (hx : keyOk 8 x = true) (vx : VR (ct N X) H Z x xv) (rx : RelV xv u) {r : α} (hf : dfind ks us x = some r)
  {Q : Value -> Shared -> Prop} {E : Value -> Shared -> Prop} (q : ∀ v val s', Inv X pins σ H s' -> RelV v val -> Rel r v -> Q val s') : wpAny (model X.prog X.w) X.A (getItem (.ref a) u) Q E s := by
 obtain ⟨o, es, ep, ws, zs, D⟩ := dict_is (N := N) I e hk
 have kx := VR.key (N := N) I hx vx rx
 have hin : nk x ∈ ks.map nk := by
  by_cases h : nk x ∈ ks.map nk
  ·exact h
  ·have := (find_no (y := r) (told_no D.ok hx h)).2.1 us
   simp_all
 refine TfD.item_nk (by show X.A.units + 1 + 8 < cLine; omega) kx D.d hin fun j ent h1 h2 => ?_
 obtain ⟨k, e1, e2, e3⟩ := told_at D.ok hx D.nd h1
 have hfj := (find_at (y := r) e1 e2 e3).2.1 us hl
 rw [hf] at hfj
 obtain ⟨v, hv, hr⟩ := rel j r hfj.symm
 obtain ⟨z, hz, rz⟩ := D.vz.get hv
 have hj : j < ks.length := (List.getElem?_eq_some_iff.mp e1).1
 have hw : ws[j]? = some (ws[j]'(by have := D.lk; omega)) := List.getElem?_eq_getElem _
 have := ents_at (w := X.w) e1 hw hz
 rw [<- D.el, Array.getElem?_toList, h2] at this
 have h3 := Option.some.inj this
 rw [h3]
 exact q v z _ (I.tok _) rz hr
theorem dict_type (I : Inv X pins σ H s) {a : Addr} {ks : List W} {kv vv : List V} (e : IsD H X.w a ks kv vv) : s.TypeIs (.ref a) "dict" := by
 obtain ⟨o, e⟩ := e
 obtain ⟨⟨es, ep, us, zs, ho, hx, _⟩, _⟩ := (show ObjOk X.prog X.w H s.heap a (dictO X.w a o ks kv vv) from I.hok a _ e)
 exact ⟨o, ho, hx.1⟩
theorem dict_lens (I : Inv X pins σ H s) {a : Addr} {ks : List W} {kv vv : List V} (e : IsD H X.w a ks kv vv) : kv.length = ks.length ∧ vv.length = ks.length ∧ ks.length <= sizeLine := by
 obtain ⟨o, e⟩ := e
 obtain ⟨⟨es, ep, us, zs, ho, hx, _, _, h1, h2, l1, l2, _, _, _, sz⟩, _⟩ := (show ObjOk X.prog X.w H s.heap a (dictO X.w a o ks kv vv) from I.hok a _ e)
 have := h1.length
 have := h2.length
 omega
end
section
variable {C : Ct} {H : Hp} {Z : Addr -> Prop} {ρ : List Addr}
theorem rrs_w : ∀ {ws : List W} {vs : List V}, VRs C H Z ws vs -> RRs C H Z ρ (ws.map .w) vs
 | [], vs, h => by unfold VRs at h; exact h
 | w :: ws, vs, h => by
  obtain ⟨v, r, rfl, h1, h2⟩ := h
  exact ⟨v, r, rfl, h1, rrs_w h2⟩
theorem allW_some : ∀ {rs : List R} {ws : List W}, allW rs = some ws -> rs = ws.map .w
 | [], ws, h => by cases h; rfl
 | .w w :: rs, ws, h => by
  unfold allW at h
  cases e : allW rs with
  | none => simp_all
  | some us =>
   have : w :: us = ws := by simp_all
   subst this
   rw [allW_some e]
   rfl
 | .loc _ :: _, ws, h => by cases h
theorem vrs_of_rrs : ∀ {ws : List W} {vs : List V}, RRs C H Z ρ (ws.map .w) vs -> VRs C H Z ws vs
 | [], vs, h => by unfold VRs; exact h
 | w :: ws, vs, h => by
  obtain ⟨v, r, rfl, h1, h2⟩ := h
  exact ⟨v, r, rfl, h1, vrs_of_rrs h2⟩
end
section
variable {X : Cx} {N : Nm}
theorem live_obj {C : Ct} {Z0 : Addr -> Prop} {ρ : List Addr} {h : Hh} {H : Hp} {n : Nat} {a : Addr} {o : O} (hr : HR C Z0 ρ h H) (e1 : ρ[n]? = some a) (e2 : h[n]? = some o) (d : o ≠ .dead) : OR C H (Av ρ h Z0) ρ a o := hr.ob n o a e2 e1 d
theorem o_idx (hu : X.A.units + 64 < cLine) : IxR X (rOpR (ct N X) .idx) := by
 intro value slice pins s σ H x y v u Q I rx ry t hs
 obtain ⟨Z0, ρ, h, ra, rb, hr, ra', rb', q⟩ := t
 have fin : ∀ {r : R} {z : V}, EQ (ct N X) Z0 ρ h H Q (.ok r h) -> RR (ct N X) H (Av ρ h Z0) ρ r z -> Q z H := fun q r => q.ref hr r
 have dict : ∀ {α : Type} {Rel : α -> V -> Prop} {a : Addr} {ks : List W} {kv vv : List V} {us : List α} {w : W} {r : α} (mk : α -> R), (∀ r v, Rel r v -> RR (ct N X) H (Av ρ h Z0) ρ (mk r) v) -> x = .ref a -> IsD H X.w a ks kv vv -> VRs (ct N X) H (Av ρ h Z0) ks kv -> us.length = ks.length -> (∀ (j : Nat) (r : α), us[j]? = some r -> ∃ v, vv[j]? = some v ∧ Rel r v) -> keyOk 8 w = true ->
   VR (ct N X) H (Av ρ h Z0) w y -> dfind ks us w = some r -> EQ (ct N X) Z0 ρ h H Q (.ok (mk r) h) -> wpAny (model X.prog X.w) X.A (subscriptTail value slice v u) (EP X pins σ Q) X.xe s := by
  intro α Rel a ks kv vv us w r mk hm hx e hk hl rel kw vw hf q
  subst hx
  cases (show v = Value.ref a from rx)
  exact tail_any (dict_type I e) slot_dict_getitem.lookup (dict_item (Rel := Rel) I hu e hk hl rel kw vw ry hf fun z val s' I' rz hz => ⟨z, H, I', rz, fin q (hm _ _ hz)⟩) hs
 cases ra with
 | w a =>
  cases rb with
  | loc n => exact q.elim
  | w b =>
   obtain ⟨w, e, q2⟩ := q.w2
   clear q
   have e : op_idx [a, b] = some w := e
   cases a with
   | tup ws =>
    cases b with
    | int i =>
     have e : Tf.atI ws i = some w := e
     have ra' : VR (ct N X) H (Av ρ h Z0) (.tup ws) x := ra'
     unfold VR at ra'
     obtain ⟨p, vs, rfl, hq, hv⟩ := ra'
     obtain ⟨z, e2, rz⟩ := vrs_at hv e
     exact ix_tup value slice pins s σ H _ y v u Q I rx ry ⟨p, vs, i, z, rfl, rr_int rb', hq.t, e2, fin q2 rz⟩ hs
    | _ => cases e
   | lst ws =>
    cases b with
    | int i =>
     have e : Tf.atI ws i = some w := e
     have ra' : VR (ct N X) H (Av ρ h Z0) (.lst ws) x := ra'
     unfold VR at ra'
     obtain ⟨p, vs, rfl, hq, _, hv⟩ := ra'
     obtain ⟨z, e2, rz⟩ := vrs_at hv e
     exact ix_list value slice pins s σ H _ y v u Q I rx ry ⟨p, vs, i, z, rfl, rr_int rb', .of hq, e2, fin q2 rz⟩ hs
    | _ => cases e
   | scr ns =>
    cases b with
    | int i =>
     have e : (Tf.atI ns i).map W.int = some w := e
     have ra' : VR (ct N X) H (Av ρ h Z0) (.scr ns) x := ra'
     unfold VR at ra'
     obtain ⟨p, rfl, hq⟩ := ra'
     cases e1 : Tf.atI ns i with
     | none => simp_all
     | some z =>
      rw [e1] at e
      cases e
      have e2 : L2.atI (ns.map V.int) i = some (.int z) := by
       have := atI_l2 e1
       unfold L2.atI at this ⊢
       rw [List.length_map]
       cases e3 : ixN ns.length i <;> simp_all
      have hsq : SqL X.K H p (ns.map V.int) := hq.elim (fun z => .inl z.1) .inr
      exact ix_list value slice pins s σ H _ y v u Q I rx ry ⟨p, _, i, .int z, rfl, rr_int rb', hsq, e2, fin q2 (show VR _ _ _ _ _ from vr_int_i)⟩ hs
    | _ => cases e
   | str z =>
    cases b with
    | int i =>
     have e : (if Nat.ble z.length sizeMax = true then (Tf.atI z i).map (fun c => W.str [c]) else none) = some w := e
     split at e
     case isFalse => cases e
     rename_i hzl
     cases e1 : Tf.atI z i with
     | none => rw [e1] at e; cases e
     | some c =>
      rw [e1] at e
      cases e
      have vx := rr_str ra'
      subst vx
      have hz : (tx z).length <= sizeLine := by rw [tx_len]; exact sz_line (Nat.le_of_ble_eq_true hzl)
      exact ix_str value slice pins s σ H _ y v u Q I rx ry ⟨tx z, i, c, rfl, rr_int rb', hz, by show L2.atI z.toArray.toList i = _; rw [List.toList_toArray]; exact atI_l2 e1, fin q2 (by unfold RR VR; rfl)⟩ hs
    | _ => cases e
   | dct ks us =>
    have e : (if keyOk 8 b = true then dfind ks us b else none) = some w := e
    split at e
    ·rename_i kb
     have ra' : VR (ct N X) H (Av ρ h Z0) (.dct ks us) x := ra'
     unfold VR at ra'
     obtain ⟨p, kv, vv, hx, e1, _, hk, hv⟩ := ra'
     have hl : us.length = ks.length := by
      rw [<- vrs_len hv]
      have := (dict_lens I e1).2.1
      omega
     exact dict (Rel := VR (ct N X) H (Av ρ h Z0)) .w (fun _ _ z => z) hx e1 hk hl (fun j r hj => vrs_get hv hj) kb rb' e q2
    ·cases e
   | _ => cases e
 | loc n =>
  cases rb with
  | loc m => exact q.elim
  | w b =>
   have e : opR .idx [.loc n, .w b] h = match oh_idx [.loc n, .w b] h with | some (r, h') => .ok r h' | none => .no := rfl
   rw [e] at q
   simp only [oh_idx] at q
   obtain ⟨a, ea, hx⟩ := ra'
   cases eo : h[n]? with
   | none => rw [eo] at q; cases b <;> exact q.elim
   | some o =>
    rw [eo] at q
    cases o with
    | lst rs =>
     cases b with
     | int i =>
      dsimp only at q
      cases e1 : Tf.atI rs i with
      | none => rw [e1] at q; exact q.elim
      | some r =>
       rw [e1] at q
       obtain ⟨vs, e2, rv⟩ := live_obj hr ea eo (by intro z; cases z)
       obtain ⟨z, e3, rz⟩ := rrs_at rv e1
       exact ix_list value slice pins s σ H _ y v u Q I rx ry ⟨a, vs, i, z, hx, rr_int rb', .of e2, e3, fin q rz⟩ hs
     | _ => exact q.elim
    | dct ks us =>
     have q : EQ (ct N X) Z0 ρ h H Q (match (if keyOk 8 b = true then (dfind ks us b).map fun r => (r, h) else none) with | some (r, h') => .ok r h' | none => .no) := by
      cases b <;> exact q
     split at q
     ·rename_i r h' e4
      split at e4
      ·rename_i kb
       cases e5 : dfind ks us b with
       | none => rw [e5] at e4; cases e4
       | some r' =>
        rw [e5] at e4
        cases e4
        obtain ⟨kv, vv, e1, hk, hv⟩ := live_obj hr ea eo (by intro z; cases z)
        have hl : us.length = ks.length := by
         rw [<- rrs_len hv]
         exact (dict_lens I e1).2.1
        exact dict (Rel := RR (ct N X) H (Av ρ h Z0) ρ) id (fun _ _ z => z) hx e1 hk hl (fun j r hj => rrs_get hv hj) kb rb' e5 q
      ·cases e4
     ·exact q.elim
    | ins c ns us => cases b <;> exact q.elim
    | tup rs =>
     cases b with
     | int i =>
      dsimp only at q
      cases e1 : Tf.atI rs i with
      | none => rw [e1] at q; exact q.elim
      | some r =>
       rw [e1] at q
       obtain ⟨vs, e2, rv⟩ := live_obj hr ea eo (by intro z; cases z)
       obtain ⟨z, e3, rz⟩ := rrs_at rv e1
       exact ix_tup value slice pins s σ H _ y v u Q I rx ry ⟨a, vs, i, z, hx, rr_int rb', e2.t, e3, fin q rz⟩ hs
     | _ => exact q.elim
    | exc _ _ => cases b <;> exact q.elim
    | dead => cases b <;> exact q.elim
theorem o_len : CallR X (.builtin "len") (fun xs H Q => ∃ x Z0 ρ h r, xs = [x] ∧ HR (ct N X) Z0 ρ h H ∧ RR (ct N X) H (Av ρ h Z0) ρ r x ∧ EQ (ct N X) Z0 ρ h H Q (opR .len [r] h)) := by
 intro pins s σ H xs us Q I rs t
 obtain ⟨x, Z0, ρ, h, r, rfl, hr, rr, q⟩ := t
 have dlen : ∀ {a : Addr} {ks : List W} {kv vv : List V}, x = .ref a -> IsD H X.w a ks kv vv -> VRs (ct N X) H (Av ρ h Z0) ks kv -> Q (.int ks.length) H -> wpAny (model X.prog X.w) X.A (call (.builtin "len") us) (EP X pins σ Q) X.xe s := by
  intro a ks kv vv hx e hk q
  subst hx
  obtain ⟨o, es, ep, ws, zs, D⟩ := dict_is (N := N) I e hk
  obtain ⟨u, rfl, ru⟩ := vals1 rs
  cases (show u = Value.ref a from ru)
  have hsz := D.size
  have := D.sz
  have hl := sizeLine_eq
  refine TfD.len_d D.d (by omega) ⟨.int ks.length, H, I.tok _, ⟨_, by rw [hsz]⟩, q⟩
 cases r with
 | w a =>
  obtain ⟨w, e, q2⟩ := q.w1
  have ra := rr_w rr
  cases a with
  | str z =>
   have e : (if Nat.ble z.length sizeMax = true then some (W.int z.length) else none) = some w := e
   split at e
   ·rename_i hz
    cases e
    refine call_len_str pins s σ H _ us Q I rs ⟨tx z, by rw [vr_str ra], by rw [tx_len]; exact sz_line (Nat.le_of_ble_eq_true hz), ?_⟩
    rw [tx_len]
    exact q2.val hr vr_int_i
   ·cases e
  | tup ws =>
   cases e
   unfold VR at ra
   obtain ⟨p, vs, rfl, hq, hv⟩ := ra
   refine call_len_seq pins s σ H _ us Q I rs ⟨p, vs, rfl, .inr hq.t, ?_⟩
   rw [vrs_len hv]
   exact q2.val hr vr_int_i
  | lst ws =>
   cases e
   unfold VR at ra
   obtain ⟨p, vs, rfl, hq, _, hv⟩ := ra
   refine call_len_seq pins s σ H _ us Q I rs ⟨p, vs, rfl, .inl (.of hq), ?_⟩
   rw [vrs_len hv]
   exact q2.val hr vr_int_i
  | scr ns =>
   cases e
   unfold VR at ra
   obtain ⟨p, rfl, hq⟩ := ra
   refine call_len_seq pins s σ H _ us Q I rs ⟨p, _, rfl, .inl (hq.elim (fun z => .inl z.1) .inr), ?_⟩
   rw [List.length_map]
   exact q2.val hr vr_int_i
  | dct ks vs =>
   cases e
   unfold VR at ra
   obtain ⟨p, kv, vv, hx, e1, _, hk, hv⟩ := ra
   exact dlen hx e1 hk (q2.val hr vr_int_i)
  | _ => cases e
 | loc n =>
  have e : opR .len [.loc n] h = match oh_len [.loc n] h with | some (r, h') => .ok r h' | none => .no := rfl
  rw [e] at q
  simp only [oh_len] at q
  obtain ⟨a, ea, hx⟩ := rr
  cases eo : h[n]? with
  | none => rw [eo] at q; exact q.elim
  | some o =>
   rw [eo] at q
   cases o with
   | lst rs' =>
    obtain ⟨vs, e2, rv⟩ := live_obj hr ea eo (by intro z; cases z)
    refine call_len_seq pins s σ H _ us Q I rs ⟨a, vs, by rw [hx], .inl (.of e2), ?_⟩
    rw [rrs_len rv]
    exact EQ.val (w := .int rs'.length) q hr vr_int_i
   | dct ks us' =>
    obtain ⟨kv, vv, e1, hk, hv⟩ := live_obj hr ea eo (by intro z; cases z)
    exact dlen hx e1 hk (EQ.val (w := .int ks.length) q hr vr_int_i)
   | ins c ns us => exact q.elim
   | tup _ => exact q.elim
   | exc _ _ => exact q.elim
   | dead => exact q.elim
end
end Tf
namespace Tf
open PySem L2 PyProof.Rows
section
variable {X : Cx} {N : Nm}
def isNonR : R -> Bool
 | .w .non => true
 | _ => false
theorem vr_none {C : Ct} {H : Hp} {Z : Addr -> Prop} {ρ : List Addr} {r : R} {v : V} (h : RR C H Z ρ r v) : decide (v = .non) = isNonR r := by
 cases r with
 | loc n => obtain ⟨a, _, rfl⟩ := h; rfl
 | w w =>
  have h := rr_w h
  cases w with
  | non => rw [vr_non h]; rfl
  | bl b => rw [vr_bl h]; rfl
  | int b => rw [vr_int h]; rfl
  | str b => rw [vr_str h]; rfl
  | tup b => unfold VR at h; obtain ⟨a, _, rfl, _⟩ := h; rfl
  | lst b => unfold VR at h; obtain ⟨a, _, rfl, _⟩ := h; rfl
  | dct b c => unfold VR at h; obtain ⟨a, _, _, rfl, _⟩ := h; rfl
  | ins b c d => unfold VR at h; obtain ⟨a, _, _, rfl, _⟩ := h; rfl
  | exc b c => unfold VR at h; exact h.elim
  | scr b => unfold VR at h; obtain ⟨a, rfl, _⟩ := h; rfl
  | rep b => unfold VR ShownAs at h; rw [h]; rfl
def rOp1 (C : Ct) (o : Op) (x : V) (H : Hp) (Q : VK) : Prop := ∃ Z0 ρ h r, HR C Z0 ρ h H ∧ RR C H (Av ρ h Z0) ρ r x ∧ EQ C Z0 ρ h H Q (opR o [r] h)
theorem tEv_op1 {C : Ct} {cl : Cls} {call : Call} {o : Op} {ia : E} (ho : ∀ r h, opC cl call o [r] h = opR o [r] h) {σ : Sg} {H : Hp} {Q : VK} (t : tEv C (ev cl call (.op o [ia])) σ H Q) : tEv C (ev cl call ia) σ H fun x H1 => rOp1 C o x H1 Q := by
 obtain ⟨Z0, ρ, h, env, hr, er, q⟩ := t
 unfold ev at q
 unfold evs at q
 cases e1 : ev cl call ia env h with
 | ex c v => rw [e1] at q; exact q.elim
 | no => rw [e1] at q; exact q.elim
 | ok r h1 =>
  rw [e1] at q
  simp only [evs, ho] at q
  refine tEv.bind hr er e1 fun H1 ρ1 v n1 rr => ?_
  exact ⟨Z0, ρ1, h1, r, n1.hr, rr, EQ.later n1.ex q⟩
theorem tEv_op2 {C : Ct} {cl : Cls} {call : Call} {o : Op} {ia ib : E} {σ : Sg} {H : Hp} {Q : VK} (t : tEv C (ev cl call (.op o [ia, ib])) σ H Q) : tOp (rOp C cl call o) (tEv C (ev cl call ia)) (tEv C (ev cl call ib)) σ H Q := by
 obtain ⟨Z0, ρ, h, env, hr, er, q⟩ := t
 unfold ev at q
 unfold evs at q
 cases e1 : ev cl call ia env h with
 | ex c v => rw [e1] at q; exact q.elim
 | no => rw [e1] at q; exact q.elim
 | ok r h1 =>
  rw [e1] at q
  refine tEv.bind hr er e1 fun H1 ρ1 v n1 rr => ?_
  simp only [evs] at q
  cases e2 : ev cl call ib env h1 with
  | ex c v => rw [e2] at q; exact q.elim
  | no => rw [e2] at q; exact q.elim
  | ok r2 h2 =>
   rw [e2] at q
   refine tEv.bind n1.hr n1.er e2 fun H2 ρ2 v2 n2 rr2 => ?_
   exact ⟨Z0, ρ2, h2, r, r2, n2.hr, RR.ex n2.ex rr, rr2, EQ.later (n1.ex.trans n2.ex) q⟩
theorem OpR.imp {f : Value -> Value -> Sem Value} {r r' : R2} (p : OpR X f r) (i : ∀ x y H Q, r' x y H Q -> r x y H Q) : OpR X f r' := fun pins s σ H x y v u Q I rx ry q => p pins s σ H x y v u Q I rx ry (i _ _ _ _ q)
theorem IxR.imp {r r' : R2} (p : IxR X r) (i : ∀ x y H Q, r' x y H Q -> r x y H Q) : IxR X r' := fun a b pins s σ H x y v u Q I rx ry q => p a b pins s σ H x y v u Q I rx ry (i _ _ _ _ q)
theorem rOp_R {C : Ct} {cl : Cls} {call : Call} {o : Op} (ho : ∀ a b h, opC cl call o [a, b] h = opR o [a, b] h) : ∀ x y H Q, rOp C cl call o x y H Q -> rOpR C o x y H Q := fun x y H Q ⟨Z0, ρ, h, ra, rb, hr, r1, r2, q⟩ => ⟨Z0, ρ, h, ra, rb, hr, r1, r2, by rw [<- ho]; exact q⟩
variable {cl : Cls} {call : Call} {a b : Expr} {ia ib : E} {pos : Pos}
theorem se_bin {op : Operator} {o : Op} (k : OpR X (binaryOp op) (rOpR (ct N X) o)) (ho : ∀ a b h, opC cl call o [a, b] h = opR o [a, b] h) (p1 : PE X a (tEv (ct N X) (ev cl call ia))) (p2 : PE X b (tEv (ct N X) (ev cl call ib))) : PE X (.BinOp a op b pos) (tEv (ct N X) (ev cl call (.op o [ia, ib]))) :=
 PE.imp (pe_op (OpR.imp k (rOp_R ho)) p1 p2) fun _ _ _ => tEv_op2
theorem se_cmpO {op : CmpOp} {o : Op} (k : OpR X (compareOp op) (rOp (ct N X) cl call o)) (hm : behindInMarks op b = false) (p1 : PE X a (tEv (ct N X) (ev cl call ia))) (p2 : PE X b (tEv (ct N X) (ev cl call ib))) : PE X (.Compare a [op] [b] pos) (tEv (ct N X) (ev cl call (.op o [ia, ib]))) :=
 PE.imp (pe_cmpR k p1 p2 hm) fun _ _ _ => tEv_op2
theorem sb_cmpO {op : CmpOp} {o : Op} (k : OpR X (compareOp op) (rOp (ct N X) cl call o)) (hm : behindInMarks op b = false) (p1 : PE X a (tEv (ct N X) (ev cl call ia))) (p2 : PE X b (tEv (ct N X) (ev cl call ib))) : PT X (.Compare a [op] [b] pos) (tEb (ct N X) (ev cl call (.op o [ia, ib]))) :=
 PT.imp (pt_cmpR k p1 p2 hm) fun σ H Q ⟨Z0, ρ, h, env, hr, er, q⟩ => by
  obtain ⟨b', h', e1, q⟩ := q.shape
  refine tEv_op2 (o := o) (cl := cl) (call := call) (ia := ia) (ib := ib) ⟨Z0, ρ, h, env, hr, er, ?_⟩
  rw [e1]
  exact fun ρ' H' v ex hr' rr => ⟨b', rr_bl rr, q ρ' H' ex hr'⟩
theorem se_ix (hu : X.A.units + 64 < cLine) (hs : PlainIx b) (p1 : PE X a (tEv (ct N X) (ev cl call ia))) (p2 : PE X b (tEv (ct N X) (ev cl call ib))) : PE X (.Subscript a b pos) (tEv (ct N X) (ev cl call (.op .idx [ia, ib]))) :=
 PE.imp (pe_ix (IxR.imp (o_idx (N := N) hu) (rOp_R fun _ _ _ => rfl)) p1 p2 hs) fun _ _ _ => tEv_op2
theorem is_fin {b : Bool} {o : Op} (ho : o = if b then .notN else .isN) {x : V} {H : Hp} {Q : VK} (t : rOp1 (ct N X) o x H Q) : Q (.bl (if b then !decide (x = .non) else decide (x = .non))) H := by
 obtain ⟨Z0, ρ, h, r, hr, rr, q⟩ := t
 rw [vr_none rr]
 cases r with
 | loc n =>
  cases b <;> subst ho
  ·exact EQ.val (w := .bl false) q hr vr_bl_i
  ·exact EQ.val (w := .bl true) q hr vr_bl_i
 | w w =>
  cases b <;> subst ho
  ·cases w with
   | non => exact EQ.val (w := .bl true) q hr vr_bl_i
   | _ => exact EQ.val (w := .bl false) q hr vr_bl_i
  ·cases w with
   | non => exact EQ.val (w := .bl false) q hr vr_bl_i
   | _ => exact EQ.val (w := .bl true) q hr vr_bl_i
theorem PC.imp {op : CmpOp} {t t' : TE} (p : PC X op a b t) (i : ∀ σ H Q, t' σ H Q -> t σ H Q) : PC X op a b t' := ⟨fun pins s σ H Q I q => p.run pins s σ H Q I (i _ _ _ q)⟩
theorem sc_isN {j pos'} (p : PE X a (tEv (ct N X) (ev cl call ia))) : PC X .Is a (.Constant .none j pos') (tEv (ct N X) (ev cl call (.op .isN [ia]))) :=
 PC.imp (pc_isN p) fun σ H Q t => by
  obtain ⟨Z0, ρ, h, env, hr, er, q⟩ := tEv_op1 (fun _ _ => rfl) t
  exact ⟨Z0, ρ, h, env, hr, er, EQ.imp (fun v H' r => is_fin (b := false) rfl r) q⟩
theorem sc_notN {j pos'} (p : PE X a (tEv (ct N X) (ev cl call ia))) : PC X .IsNot a (.Constant .none j pos') (tEv (ct N X) (ev cl call (.op .notN [ia]))) :=
 PC.imp (pc_notN p) fun σ H Q t => by
  obtain ⟨Z0, ρ, h, env, hr, er, q⟩ := tEv_op1 (fun _ _ => rfl) t
  exact ⟨Z0, ρ, h, env, hr, er, EQ.imp (fun v H' r => is_fin (b := true) rfl r) q⟩
end
end Tf
namespace Tf
open PySem L2 PyProof.Rows
def rCall (C : Ct) (o : Op) : List V -> Hp -> VK -> Prop := fun xs H Q => ∃ Z0 ρ h rs, HR C Z0 ρ h H ∧ RRs C H (Av ρ h Z0) ρ rs xs ∧ EQ C Z0 ρ h H Q (opR o rs h)
theorem tEv_ops {C : Ct} {cl : Cls} {call : Call} {o : Op} {ies : List E} (ho : ∀ rs h, opC cl call o rs h = opR o rs h) {σ : Sg} {H : Hp} {Q : VK} (t : tEv C (ev cl call (.op o ies)) σ H Q) : tEvs C (evs cl call ies) σ H fun xs H1 => rCall C o xs H1 Q := by
 obtain ⟨Z0, ρ, h, env, hr, er, q⟩ := t
 unfold ev at q
 cases e1 : evs cl call ies env h with
 | ex c v => rw [e1] at q; exact q.elim
 | no => rw [e1] at q; exact q.elim
 | ok rs h1 =>
  rw [e1] at q
  simp only [ho] at q
  refine tEvs.bind hr er e1 fun H1 ρ1 v n1 rr => ?_
  exact ⟨Z0, ρ1, h1, rs, n1.hr, rr, EQ.later n1.ex q⟩
section
variable {C : Ct} {H : Hp} {Z Z0 : Addr -> Prop} {ρ : List Addr} {h : Hh} {xs : List V} {Q : VK}
theorem rrs1 {r : R} (q : RRs C H Z ρ [r] xs) : ∃ x, xs = [x] ∧ RR C H Z ρ r x := by
 obtain ⟨v, t, rfl, h1, h2⟩ := q
 unfold RRs at h2; subst h2
 simp_all
theorem rrs2 {r r2 : R} (q : RRs C H Z ρ [r, r2] xs) : ∃ x y, xs = [x, y] ∧ RR C H Z ρ r x ∧ RR C H Z ρ r2 y := by
 obtain ⟨v, t, rfl, h1, h2⟩ := q
 obtain ⟨y, rfl, h3⟩ := rrs1 h2
 exact ⟨v, y, rfl, h1, h3⟩
theorem rCall.ws {o : Op} (t : rCall C o xs H Q) (no : ∀ rs h, opH o rs h = none) : ∃ Z0 ρ h ws w, HR C Z0 ρ h H ∧ VRs C H (Av ρ h Z0) ws xs ∧ opW o ws = some w ∧ EQ C Z0 ρ h H Q (.ok (.w w) h) := by
 obtain ⟨Z0, ρ, h, rs, hr, rr, q⟩ := t
 cases e : allW rs with
 | none =>
  have e2 : opR o rs h = match opH o rs h with | some (r, h') => .ok r h' | none => .no := by unfold opR; rw [e]; first | done | rfl
  rw [e2, no] at q
  exact q.elim
 | some ws =>
  have e2 : opR o rs h = match opW o ws with | some w => .ok (.w w) h | none => .no := by unfold opR; rw [e]; first | done | rfl
  rw [e2] at q
  cases e3 : opW o ws with
  | none => rw [e3] at q; exact q.elim
  | some w =>
   rw [e3] at q
   rw [allW_some e] at rr
   exact ⟨Z0, ρ, h, ws, w, hr, vrs_of_rrs rr, e3, q⟩
theorem vrs1 {w : W} (q : VRs C H Z [w] xs) : ∃ x, xs = [x] ∧ VR C H Z w x := by
 obtain ⟨v, t, rfl, h1, h2⟩ := q
 unfold VRs at h2; subst h2
 simp_all
theorem vrs2 {w w2 : W} (q : VRs C H Z [w, w2] xs) : ∃ x y, xs = [x, y] ∧ VR C H Z w x ∧ VR C H Z w2 y := by
 obtain ⟨v, t, rfl, h1, h2⟩ := q
 obtain ⟨y, rfl, h3⟩ := vrs1 h2
 exact ⟨v, y, rfl, h1, h3⟩
end
section
variable {X : Cx} {N : Nm} {cl : Cls} {call : Call}
theorem se_callB {id : String} {x : Str} {o : Op} {e : Expr} {es : List Expr} {ies : List E} {p pos : Pos} (k : CallR X (.builtin id) (rCall (ct N X) o)) (ho : ∀ rs h, opC cl call o rs h = opR o rs h) (hg : Gl X x) (hm : X.mg x = none) (hv : bootBuiltins x = some (.builtin id))
  (pa : PA X (e :: es) (tEvs (ct N X) (evs cl call ies))) (hn : x ≠ "__name__") (hdb : (x == ("__debug__" : Str)) = false) (he : starEach (e :: es) X.env = (false, eval e X.env) :: starEach es X.env) (hpl : (backTo pos (starEach es X.env)).any (·.1) = false) :
  PE X (.Call (.Name x p) (e :: es) [] pos) (tEv (ct N X) (ev cl call (.op o ies))) :=
 PE.imp (pe_callB k hg hm hv pa hn hdb he hpl) fun σ H Q t => tEv_ops ho t
theorem se_callT {T : String} {x : Str} {o : Op} {e : Expr} {es : List Expr} {ies : List E} {p pos : Pos} (k : CallR X (.type T) (rCall (ct N X) o)) (ho : ∀ rs h, opC cl call o rs h = opR o rs h) (hg : Gl X x) (hm : X.mg x = none) (hv : bootBuiltins x = some (.type T))
  (pa : PA X (e :: es) (tEvs (ct N X) (evs cl call ies))) (hn : x ≠ "__name__") (hdb : (x == ("__debug__" : Str)) = false) (he : starEach (e :: es) X.env = (false, eval e X.env) :: starEach es X.env) (hpl : (backTo pos (starEach es X.env)).any (·.1) = false) :
  PE X (.Call (.Name x p) (e :: es) [] pos) (tEv (ct N X) (ev cl call (.op o ies))) :=
 PE.imp (pe_callTy k hg hm hv pa hn hdb he hpl) fun σ H Q t => tEv_ops ho t
theorem tEvs_dis {C : Ct} {o : Op} {ies : List E} (ho : ∀ rs h, opC cl call o rs h = opR o rs h) (no : ∀ rs h, opH o rs h = none) {σ : Sg} {H : Hp} {Q : VK} (t : tEv C (ev cl call (.op o ies)) σ H Q) :
  tEvs C (evs cl call ies) σ H fun xs H1 => ∃ Z0 ρ h ws w, HR C Z0 ρ h H1 ∧ VRs C H1 (Av ρ h Z0) ws xs ∧ opW o ws = some w ∧ EQ C Z0 ρ h H1 Q (.ok (.w w) h) := by
 obtain ⟨Z0, ρ, h, env, hr, er, q⟩ := tEv_ops ho t
 refine ⟨Z0, ρ, h, env, hr, er, ?_⟩
 cases e : evs cl call ies env h with
 | ex c v => rw [e] at q; exact q.elim
 | no => rw [e] at q; exact q.elim
 | ok rs h1 => rw [e] at q; exact fun ρ' H' v ex hr' rr => (q ρ' H' v ex hr' rr).ws no
theorem se_tup {es : List Expr} {ies : List E} {x1 pos} (pa : PA X es (tEvs (ct N X) (evs cl call ies))) : PE X (.Tuple es x1 pos) (tEv (ct N X) (ev cl call (.op .tup ies))) :=
 PE.imp (n_tup pa) fun σ H Q t => by
  obtain ⟨Z0, ρ, h, env, hr, er, q⟩ := tEvs_dis (fun _ _ => rfl) (fun _ _ => rfl) t
  refine ⟨Z0, ρ, h, env, hr, er, ?_⟩
  cases e : evs cl call ies env h with
  | ex c v => rw [e] at q; exact q.elim
  | no => rw [e] at q; exact q.elim
  | ok rs h1 =>
   rw [e] at q
   intro ρ' H' v ex hr' rr
   obtain ⟨Z1, ρ1, h2, ws, w, hr1, rv, e2, q2⟩ := q ρ' H' v ex hr' rr
   have e2 : (if ws.length <= sizeMax then some (W.tup ws) else none) = some w := e2
   split at e2
   ·rename_i hz
    cases e2
    refine ⟨by rw [vrs_len rv]; exact sz_line hz, fun p o hp ho => ?_⟩
    exact q2.new hr1 hp (by unfold VR; exact ⟨p, v, rfl, ⟨o, upd_same, ho⟩, VRs.ex (Ex.fresh hr1 hp) rv⟩)
   ·grind
theorem se_lst {es : List Expr} {ies : List E} {pos} (pa : PA X es (tEvs (ct N X) (evs cl call ies))) : PE X (.List es pos) (tEv (ct N X) (ev cl call (.op .lst ies))) :=
 PE.imp (pe_lst pa) fun σ H Q t => by
  obtain ⟨Z0, ρ, h, env, hr, er, q⟩ := tEvs_dis (fun _ _ => rfl) (fun _ _ => rfl) t
  refine ⟨Z0, ρ, h, env, hr, er, ?_⟩
  cases e : evs cl call ies env h with
  | ex c v => rw [e] at q; exact q.elim
  | no => rw [e] at q; exact q.elim
  | ok rs h1 =>
   rw [e] at q
   intro ρ' H' v ex hr' rr
   obtain ⟨Z1, ρ1, h2, ws, w, hr1, rv, e2, q2⟩ := q ρ' H' v ex hr' rr
   have e2 : (if ws.length <= sizeMax then some (W.lst ws) else none) = some w := e2
   split at e2
   ·rename_i hz
    cases e2
    refine ⟨by rw [vrs_len rv]; exact sz_line hz, fun p hp => ?_⟩
    exact q2.new hr1 hp (by unfold VR; exact ⟨p, v, rfl, upd_same, hr1.new hp, VRs.ex (Ex.fresh hr1 hp) rv⟩)
   ·grind
theorem live_app {ρ : List Addr} {h : Hh} {p : Addr} {o : O} (hl : ρ.length = h.length) {a : Addr} (x : Live (ρ ++ [p]) (h ++ [o]) a) : Live ρ h a ∨ a = p := by
 obtain ⟨n, u, e1, e2, d⟩ := x
 by_cases hn : n < ρ.length
 ·rw [List.getElem?_append_left hn] at e1
  rw [List.getElem?_append_left (by omega)] at e2
  exact .inl ⟨n, u, e1, e2, d⟩
 ·rw [List.getElem?_append_right (by omega)] at e1
  grind
theorem Ex.alloc {C : Ct} {Z0 : Addr -> Prop} {ρ : List Addr} {h : Hh} {H : Hp} (hr : HR C Z0 ρ h H) {p : Addr} {u : HO} {o : O} (e : H p = none) : Ex ρ h H (ρ ++ [p]) (h ++ [o]) (upd H p u) where
 pre := ⟨[p], rfl⟩
 fr := fun a v q n => by
  refine ⟨by rw [upd_ne (ne_of_none q e)]; exact q, fun z => ?_⟩
  rcases live_app hr.len z with z | z <;> simp_all
 tp := (Ex.fresh hr e).tp
 xp := (Ex.fresh hr e).xp
theorem HR.alloc {C : Ct} {Z0 : Addr -> Prop} {ρ : List Addr} {h : Hh} {H : Hp} (hr : HR C Z0 ρ h H) {p : Addr} {u : HO} {o : O} (e : H p = none) (new : OR C (upd H p u) (Av (ρ ++ [p]) (h ++ [o]) Z0) (ρ ++ [p]) p o) : HR C Z0 (ρ ++ [p]) (h ++ [o]) (upd H p u) where
 len := by simp [hr.len]
 nd := by
  rw [List.nodup_append]
  refine ⟨hr.nd, by simp, fun a ha b hb => ?_⟩
  have hb : b = p := by simp_all
  subst hb
  rintro rfl
  obtain ⟨u, q⟩ := hr.tr a ha
  simp_all
 ob := fun n v a h1 h2 d => by
  by_cases hn : n < ρ.length
  ·rw [List.getElem?_append_left hn] at h2
   rw [List.getElem?_append_left (by rw [<- hr.len]; exact hn)] at h1
   exact OR_ex (hr.ob n v a h1 h2 d) (Ex.alloc hr e) fun w q => by rw [upd_ne (ne_of_none q e)]; exact q
  ·rw [List.getElem?_append_right (by omega)] at h2
   have hz : n - ρ.length = 0 := by
    by_cases hz : n - ρ.length = 0 <;> simp_all
   rw [List.getElem?_append_right (by rw [<- hr.len]; omega), <- hr.len, hz] at h1
   simp_all
 zd := fun a z => by
  obtain ⟨v, q⟩ := hr.zd a z
  exact ⟨v, by rw [upd_ne (ne_of_none q e)]; exact q⟩
 tr := fun a z => by
  rcases List.mem_append.mp z with z | z
  ·obtain ⟨v, q⟩ := hr.tr a z
   exact ⟨v, by rw [upd_ne (ne_of_none q e)]; exact q⟩
  ·have : a = p := by simpa using z
   subst this
   exact ⟨u, upd_same⟩
 dj := fun a z => by
  rcases List.mem_append.mp z with z | z
  ·exact hr.dj a z
  ·intro q
   obtain ⟨v, q⟩ := hr.zd a q
   simp_all
end
end Tf
namespace Tf
open PySem L2 PyProof.Rows
abbrev Zp (Z : Addr -> Prop) (p : Addr) : Addr -> Prop := fun a => Z a ∨ a = p
section
variable {C : Ct} {H H' : Hp} {Z Z' Z0 Z1 : Addr -> Prop} {ρ ρ' : List Addr} {h h' : Hh}
theorem VR.mono (k : ∀ a, Z' a -> Z a) {w : W} {v : V} (r : VR C H Z w v) : VR C H Z' w v := VR.stay (fun a o e n => ⟨e, fun z => n (k a z)⟩) (fun _ _ s => s) w v r
theorem VRs.mono (k : ∀ a, Z' a -> Z a) {w : List W} {v : List V} (r : VRs C H Z w v) : VRs C H Z' w v := VRs.stay (fun a o e n => ⟨e, fun z => n (k a z)⟩) (fun _ _ s => s) w v r
theorem RR.mono (k : ∀ a, Z' a -> Z a) : ∀ {r : R} {v : V}, RR C H Z ρ r v -> RR C H Z' ρ r v
 | .w w, v, r => VR.mono k r
 | .loc n, v, r => r
theorem RRs.mono (k : ∀ a, Z' a -> Z a) : ∀ {rs : List R} {vs : List V}, RRs C H Z ρ rs vs -> RRs C H Z' ρ rs vs
 | [], vs, r => r
 | r :: rs, vs, ⟨v, t, e, q, qs⟩ => ⟨v, t, e, RR.mono k q, RRs.mono k qs⟩
theorem OR.mono (k : ∀ a, Z' a -> Z a) {a : Addr} {o : O} (q : OR C H Z ρ a o) : OR C H Z' ρ a o := by
 cases o with
 | lst rs => obtain ⟨vs, e, r⟩ := q; exact ⟨vs, e, RRs.mono k r⟩
 | dct ks us => obtain ⟨kv, vv, e, r1, r2⟩ := q; exact ⟨kv, vv, e, VRs.mono k r1, RRs.mono k r2⟩
 | ins c ns us => obtain ⟨dx, fs, e, e2, r⟩ := q; exact ⟨dx, fs, e, e2, RRs.mono k r⟩
 | tup rs => obtain ⟨vs, e, r⟩ := q; exact ⟨vs, e, RRs.mono k r⟩
 | exc c r => obtain ⟨y, e, r⟩ := q; exact ⟨y, e, RR.mono k r⟩
 | dead => trivial
theorem ER.mono {env : Env} {σ : Sg} (k : ∀ a, Z' a -> Z a) (q : ER C H Z ρ env σ) : ER C H Z' ρ env σ := fun i r e => by
 obtain ⟨v, e1, r1⟩ := q i r e
 exact ⟨v, e1, RR.mono k r1⟩
theorem av_mono (k : ∀ a, Z' a -> Z a) : ∀ a, Av ρ h Z' a -> Av ρ h Z a := by grind
theorem HR.mono (k : ∀ a, Z' a -> Z a) (x : HR C Z ρ h H) : HR C Z' ρ h H where
 len := x.len
 nd := x.nd
 ob := fun n u a h1 h2 d => OR.mono (av_mono k) (x.ob n u a h1 h2 d)
 zd := fun a z => x.zd a (k a z)
 tr := x.tr
 dj := fun a z q => x.dj a z (k a q)
theorem VR.freshZ (e : ∀ p, Z' p -> Z p ∨ H p = none) {w : W} {v : V} (r : VR C H Z w v) : VR C H Z' w v :=
 VR.stay (fun a o q n => ⟨q, fun z => (e a z).elim n fun y => by rw [q] at y; cases y⟩) (fun _ _ s => s) w v r
theorem VRs.freshZ (e : ∀ p, Z' p -> Z p ∨ H p = none) {w : List W} {v : List V} (r : VRs C H Z w v) : VRs C H Z' w v :=
 VRs.stay (fun a o q n => ⟨q, fun z => (e a z).elim n fun y => by rw [q] at y; cases y⟩) (fun _ _ s => s) w v r
theorem RR.freshZ (e : ∀ p, Z' p -> Z p ∨ H p = none) : ∀ {r : R} {v : V}, RR C H Z ρ r v -> RR C H Z' ρ r v
 | .w w, v, r => VR.freshZ e r
 | .loc n, v, r => r
theorem RRs.freshZ (e : ∀ p, Z' p -> Z p ∨ H p = none) : ∀ {rs : List R} {vs : List V}, RRs C H Z ρ rs vs -> RRs C H Z' ρ rs vs
 | [], vs, r => r
 | r :: rs, vs, ⟨v, t, q0, q, qs⟩ => ⟨v, t, q0, RR.freshZ e q, RRs.freshZ e qs⟩
theorem OR.freshZ (k : ∀ p, Z' p -> Z p ∨ H p = none) {a : Addr} {o : O} (q : OR C H Z ρ a o) : OR C H Z' ρ a o := by
 cases o with
 | lst rs => obtain ⟨vs, e, r⟩ := q; exact ⟨vs, e, RRs.freshZ k r⟩
 | dct ks us => obtain ⟨kv, vv, e, r1, r2⟩ := q; exact ⟨kv, vv, e, VRs.freshZ k r1, RRs.freshZ k r2⟩
 | ins c ns us => obtain ⟨dx, fs, e, e2, r⟩ := q; exact ⟨dx, fs, e, e2, RRs.freshZ k r⟩
 | tup rs => obtain ⟨vs, e, r⟩ := q; exact ⟨vs, e, RRs.freshZ k r⟩
 | exc c r => obtain ⟨y, e, r⟩ := q; exact ⟨y, e, RR.freshZ k r⟩
 | dead => trivial
theorem av_fresh (k : ∀ p, Z' p -> Z p ∨ H p = none) : ∀ a, Av ρ h Z' a -> Av ρ h Z a ∨ H a = none := by grind
theorem HR.freshP (x : HR C Z0 ρ h H) {p : Addr} {o : HO} (e : H p = none) : HR C (Zp Z0 p) ρ h (upd H p o) where
 len := x.len
 nd := x.nd
 ob := fun n u a h1 h2 d => OR_ex (OR.freshZ (av_fresh (Z := Z0) fun b z => z.imp id fun z => by rw [z]; exact e) (x.ob n u a h1 h2 d)) (Z0 := Zp Z0 p) (Ex.fresh x e) fun v q => by rw [upd_ne (ne_of_none q e)]; exact q
 zd := fun a z => by
  rcases z with z | z
  ·obtain ⟨u, q⟩ := x.zd a z
   exact ⟨u, by rw [upd_ne (ne_of_none q e)]; exact q⟩
  ·subst z; exact ⟨o, upd_same⟩
 tr := fun a z => by
  obtain ⟨u, q⟩ := x.tr a z
  exact ⟨u, by rw [upd_ne (ne_of_none q e)]; exact q⟩
 dj := fun a z q => by
  rcases q with q | q
  ·exact x.dj a z q
  ·obtain ⟨u, q⟩ := x.tr _ z
   simp_all
end
def EF (C : Ct) (Z0 : Addr -> Prop) (ρ : List Addr) (h : Hh) (H : Hp) (Q : VK) : Res R -> Prop
 | .ok (.w (.lst ws)) h' => ∀ ρ' H' p vs, Ex ρ h H ρ' h' H' -> H p = none -> ¬ Z0 p -> HR C (Zp Z0 p) ρ' h' H' -> H' p = some (.lst vs) -> VRs C H' (Av ρ' h' (Zp Z0 p)) ws vs -> Q (.ref p) H'
 | .ok (.w (.dct ks us)) h' => ∀ ρ' H' p kv vv, Ex ρ h H ρ' h' H' -> H p = none -> ¬ Z0 p -> HR C (Zp Z0 p) ρ' h' H' -> IsD H' C.w p ks kv vv -> VRs C H' (Av ρ' h' (Zp Z0 p)) ks kv -> VRs C H' (Av ρ' h' (Zp Z0 p)) us vv -> Q (.ref p) H'
 | _ => False
def tEvF (C : Ct) (x : Env -> Hh -> Res R) : TE := fun σ H Q => ∃ Z0 ρ h env, HR C Z0 ρ h H ∧ ER C H (Av ρ h Z0) ρ env σ ∧ EF C Z0 ρ h H Q (x env h)
section
variable {C : Ct} {H H' : Hp} {Z Z' Z0 Z1 : Addr -> Prop} {ρ ρ' : List Addr} {h h' : Hh} {Q : VK}
theorem zp_left {p : Addr} : ∀ a, Z0 a -> Zp Z0 p a := fun _ z => .inl z
theorem not_av {p : Addr} (hr : HR C (Zp Z0 p) ρ h H) (n : ¬ Z0 p) : ¬ Av ρ h Z0 p := fun z => by
 rcases z with ⟨i, o, e1, e2, d⟩ | z
 ·exact hr.dj p (List.mem_of_getElem? e1) (.inr rfl)
 ·grind
theorem EF.plain : ∀ {u : Res R}, EQ C Z0 ρ h H Q u -> (∃ ws h', u = .ok (.w (.lst ws)) h') ∨ (∃ ks us h', u = .ok (.w (.dct ks us)) h') -> EF C Z0 ρ h H Q u := by
 intro u q sh
 rcases sh with ⟨ws, h', rfl⟩ | ⟨ks, us, h', rfl⟩
 ·intro ρ' H' p vs ex _ n hr e rv
  refine q ρ' H' _ ex (hr.mono zp_left) ?_
  exact ⟨p, vs, rfl, e, not_av hr n, VRs.mono (av_mono zp_left) rv⟩
 ·intro ρ' H' p kv vv ex _ n hr e r1 r2
  refine q ρ' H' _ ex (hr.mono zp_left) ?_
  exact ⟨p, kv, vv, rfl, e, not_av hr n, VRs.mono (av_mono zp_left) r1, VRs.mono (av_mono zp_left) r2⟩
theorem av_app {p : Addr} {o : O} (hl : ρ.length = h.length) : ∀ a, Av (ρ ++ [p]) (h ++ [o]) Z0 a -> Av ρ h (Zp Z0 p) a := by grind [live_app]
theorem HR.adopt {p : Addr} {o : O} (hr : HR C (Zp Z0 p) ρ h H) (n : ¬ Z0 p) (new : OR C H (Av ρ h (Zp Z0 p)) ρ p o) (k : ∀ {rs : List R} {vs : List V}, RRs C H (Av ρ h (Zp Z0 p)) ρ rs vs -> RRs C H (Av (ρ ++ [p]) (h ++ [o]) Z0) (ρ ++ [p]) rs vs) : HR C Z0 (ρ ++ [p]) (h ++ [o]) H := by
 have hk : ∀ {a u}, OR C H (Av ρ h (Zp Z0 p)) ρ a u -> OR C H (Av (ρ ++ [p]) (h ++ [o]) Z0) (ρ ++ [p]) a u := fun {a u} q => by
  cases u with
  | lst rs => obtain ⟨vs, e, r⟩ := q; exact ⟨vs, e, k r⟩
  | dct ks us => obtain ⟨kv, vv, e, r1, r2⟩ := q; exact ⟨kv, vv, e, VRs.mono (av_app hr.len) r1, k r2⟩
  | ins c ns us => obtain ⟨dx, fs, e, e2, r⟩ := q; exact ⟨dx, fs, e, e2, k r⟩
  | tup rs => obtain ⟨vs, e, r⟩ := q; exact ⟨vs, e, k r⟩
  | exc c r0 =>
   obtain ⟨y, e, r⟩ := q
   obtain ⟨v, t, e2, r2, _⟩ := k (show RRs C H (Av ρ h (Zp Z0 p)) ρ [r0] [y] from ⟨y, [], rfl, r, rfl⟩)
   cases e2
   exact ⟨y, e, r2⟩
  | dead => trivial
 refine ⟨by simp [hr.len], ?_, fun i v a h1 h2 d => ?_, fun a z => hr.zd a (.inl z), fun a z => ?_, fun a z q => ?_⟩
 ·rw [List.nodup_append]
  refine ⟨hr.nd, by simp, fun a ha b hb => ?_⟩
  have hb : b = p := by simp_all
  subst hb
  rintro rfl
  exact hr.dj _ ha (.inr rfl)
 ·by_cases hn : i < ρ.length
  ·rw [List.getElem?_append_left hn] at h2
   rw [List.getElem?_append_left (by rw [<- hr.len]; exact hn)] at h1
   exact hk (hr.ob i v a h1 h2 d)
  ·rw [List.getElem?_append_right (by omega)] at h2
   have hz : i - ρ.length = 0 := by
    by_cases hz : i - ρ.length = 0 <;> simp_all
   rw [hz] at h2
   rw [List.getElem?_append_right (by rw [<- hr.len]; omega), <- hr.len, hz] at h1
   simp_all
 ·rcases List.mem_append.mp z with z | z
  ·exact hr.tr a z
  ·have : a = p := by simpa using z
   subst this
   exact hr.zd _ (.inr rfl)
 ·rcases List.mem_append.mp z with z | z
  ·exact hr.dj a z (.inl q)
  ·simp_all
theorem RR.app {p : Addr} {o : O} (hl : ρ.length = h.length) : ∀ {r : R} {v : V}, RR C H (Av ρ h (Zp Z0 p)) ρ r v -> RR C H (Av (ρ ++ [p]) (h ++ [o]) Z0) (ρ ++ [p]) r v
 | .w w, v, r => VR.mono (av_app hl) r
 | .loc n, v, ⟨a, e, r⟩ => ⟨a, by rw [List.getElem?_append_left (List.getElem?_eq_some_iff.mp e).1]; exact e, r⟩
theorem RRs.app {p : Addr} {o : O} (hl : ρ.length = h.length) : ∀ {rs : List R} {vs : List V}, RRs C H (Av ρ h (Zp Z0 p)) ρ rs vs -> RRs C H (Av (ρ ++ [p]) (h ++ [o]) Z0) (ρ ++ [p]) rs vs
 | [], vs, r => r
 | r :: rs, vs, ⟨v, t, q0, q, qs⟩ => ⟨v, t, q0, RR.app hl q, RRs.app hl qs⟩
theorem Ex.adopt {ρ1 : List Addr} {h1 : Hh} {H1 : Hp} {p : Addr} {o : O} (ex : Ex ρ h H ρ1 h1 H1) (hr : HR C (Zp Z0 p) ρ1 h1 H1) (np : H p = none) : Ex ρ h H (ρ1 ++ [p]) (h1 ++ [o]) H1 where
 pre := by
  obtain ⟨t, e⟩ := ex.pre
  simp_all
 fr := fun a u e n => by
  obtain ⟨e1, n1⟩ := ex.fr a u e n
  refine ⟨e1, fun z => ?_⟩
  rcases live_app hr.len z with z | z <;> simp_all
 tp := ex.tp
 xp := ex.xp
def alR : Res R -> Res R
 | .ok (.w (.lst ws)) h' => .ok (.loc h'.length) (h' ++ [.lst (ws.map .w)])
 | .ok (.w (.dct ks vs)) h' => .ok (.loc h'.length) (h' ++ [.dct ks (vs.map .w)])
 | _ => .no
theorem EF.al : ∀ {u : Res R}, EQ C Z0 ρ h H Q (alR u) -> EF C Z0 ρ h H Q u := by
 intro u q
 unfold alR at q
 split at q
 ·intro ρ' H' p vs ex np n hr e rv
  have rr : RRs C H' (Av ρ' _ (Zp Z0 p)) ρ' (List.map R.w _) vs := rrs_w rv
  refine q (ρ' ++ [p]) H' _ (ex.adopt hr np) (hr.adopt n ⟨vs, e, rr⟩ (RRs.app hr.len)) ⟨p, by rw [<- hr.len]; simp, rfl⟩
 ·intro ρ' H' p kv vv ex np n hr e r1 r2
  have rr : RRs C H' (Av ρ' _ (Zp Z0 p)) ρ' (List.map R.w _) vv := rrs_w r2
  refine q (ρ' ++ [p]) H' _ (ex.adopt hr np) (hr.adopt n ⟨kv, vv, e, r1, rr⟩ (RRs.app hr.len)) ⟨p, by rw [<- hr.len]; simp, rfl⟩
 ·exact q.elim
theorem ev_al {cl : Cls} {call : Call} {e : E} {env : Env} : ∀ x, EQ C Z0 ρ h H Q (ev cl call (.al e) env x) -> EQ C Z0 ρ h H Q (alR (ev cl call e env x)) := fun x q => by
 unfold ev at q
 cases e1 : ev cl call e env x with
 | ex c v => rw [e1] at q; exact q.elim
 | no => rw [e1] at q; exact q.elim
 | ok r h' =>
  rw [e1] at q
  unfold alR
  cases r with
  | loc n => omega
  | w w => cases w <;> first | exact q | exact q.elim
theorem se_al {X : Cx} {N : Nm} {cl : Cls} {call : Call} {e : Expr} {ie : E} (p : PE X e (tEvF (ct N X) (ev cl call ie))) : PE X e (tEv (ct N X) (ev cl call (.al ie))) :=
 PE.imp p fun σ H Q ⟨Z0, ρ, h, env, hr, er, q⟩ => ⟨Z0, ρ, h, env, hr, er, EF.al (ev_al _ q)⟩
theorem se_fr {X : Cx} {N : Nm} {cl : Cls} {call : Call} {e : Expr} {ie : E} (p : PE X e (tEvF (ct N X) (ev cl call ie)))
  (sh : ∀ env h r h', ev cl call ie env h = .ok r h' -> (∃ ws, r = .w (.lst ws)) ∨ ∃ ks us, r = .w (.dct ks us)) : PE X e (tEv (ct N X) (ev cl call ie)) :=
 PE.imp p fun σ H Q ⟨Z0, ρ, h, env, hr, er, q⟩ => by
  refine ⟨Z0, ρ, h, env, hr, er, EF.plain q ?_⟩
  cases e1 : ev cl call ie env h with
  | ex c v => rw [e1] at q; exact q.elim
  | no => rw [e1] at q; exact q.elim
  | ok r h' =>
   rcases sh _ _ _ _ e1 with ⟨ws, rfl⟩ | ⟨ks, us, rfl⟩ <;> simp_all
theorem EF.later {ρ1 : List Addr} {h1 : Hh} {H1 : Hp} (x : Ex ρ h H ρ1 h1 H1) (hr : HR C Z0 ρ1 h1 H1) (hb : ∀ p, H1 p = none -> H p = none) : ∀ {u : Res R}, EF C Z0 ρ h H Q u -> EF C Z0 ρ1 h1 H1 Q u := by
 intro u q
 unfold EF at q ⊢
 split at q
 ·exact fun ρ2 H2 p vs ex np n hr e rv => q ρ2 H2 p vs (x.trans ex) (hb p np) n hr e rv
 ·exact fun ρ2 H2 p kv vv ex np n hr e r1 r2 => q ρ2 H2 p kv vv (x.trans ex) (hb p np) n hr e r1 r2
 ·omega
theorem Ex.back {ρ1 : List Addr} {h1 : Hh} {H1 : Hp} (x : Ex ρ h H ρ1 h1 H1) (hr : HR C Z0 ρ1 h1 H1) : ∀ p, H1 p = none -> H p = none := fun p e => by
 cases q : H p with
 | none => rfl
 | some o =>
  by_cases l : Live ρ h p
  ·obtain ⟨n, u, e1, e2, d⟩ := l
   obtain ⟨v, e3⟩ := hr.tr p (List.mem_of_getElem? (x.get e1))
   simp_all
  ·rw [(x.fr p o q l).1] at e; cases e
theorem EF.newL {ws : List W} {p : Addr} {vs : List V} (q : EF C Z0 ρ h H Q (.ok (.w (.lst ws)) h)) (hr : HR C Z0 ρ h H) (e : H p = none) (rv : VRs C H (Av ρ h Z0) ws vs) : Q (.ref p) (upd H p (.lst vs)) := by
 have n : ¬ Z0 p := fun z => by obtain ⟨o, q⟩ := hr.zd p z; rw [e] at q; cases q
 refine q ρ _ p vs (Ex.fresh hr e) e n (hr.freshP e) upd_same ?_
 exact VRs.ex (Z0 := Zp Z0 p) (Ex.fresh hr e) (VRs.freshZ (av_fresh (Z := Z0) fun b z => z.imp id fun z => by rw [z]; exact e) rv)
theorem EF.newD {ks us : List W} {p : Addr} {ob : Obj} {kv vv : List V} (q : EF C Z0 ρ h H Q (.ok (.w (.dct ks us)) h)) (hr : HR C Z0 ρ h H) (e : H p = none) (r1 : VRs C H (Av ρ h Z0) ks kv) (r2 : VRs C H (Av ρ h Z0) us vv) : Q (.ref p) (upd H p (dictO C.w p ob ks kv vv)) := by
 have n : ¬ Z0 p := fun z => by obtain ⟨o, q⟩ := hr.zd p z; rw [e] at q; cases q
 refine q ρ _ p kv vv (Ex.fresh hr e) e n (hr.freshP e) ⟨ob, upd_same⟩ ?_ ?_
 ·exact VRs.ex (Z0 := Zp Z0 p) (Ex.fresh hr e) (VRs.freshZ (av_fresh (Z := Z0) fun b z => z.imp id fun z => by rw [z]; exact e) r1)
 ·exact VRs.ex (Z0 := Zp Z0 p) (Ex.fresh hr e) (VRs.freshZ (av_fresh (Z := Z0) fun b z => z.imp id fun z => by rw [z]; exact e) r2)
end
end Tf
namespace Tf
open PySem L2 PyProof.Rows
section
variable {X : Cx} {N : Nm} {cl : Cls} {call : Call}
theorem sf_lst {es : List Expr} {ies : List E} {pos} (pa : PA X es (tEvs (ct N X) (evs cl call ies))) : PE X (.List es pos) (tEvF (ct N X) (ev cl call (.op .lst ies))) :=
 PE.imp (pe_lst pa) fun σ H Q ⟨Z0, ρ, h, env, hr, er, q⟩ => by
  unfold ev at q
  refine ⟨Z0, ρ, h, env, hr, er, ?_⟩
  cases e : evs cl call ies env h with
  | ex c v => rw [e] at q; exact q.elim
  | no => rw [e] at q; exact q.elim
  | ok rs h1 =>
   rw [e] at q
   intro ρ' H' v ex hr' rr
   have q : EF (ct N X) Z0 ρ h H Q (opR .lst rs h1) := q
   cases e2 : allW rs with
   | none =>
    have e3 : opR .lst rs h1 = .no := by unfold opR; rw [e2]; rfl
    rw [e3] at q
    exact q.elim
   | some ws =>
    have e3 : opR .lst rs h1 = match op_lst ws with | some w => .ok (.w w) h1 | none => .no := by unfold opR; rw [e2]; rfl
    rw [e3] at q
    split at q
    ·rename_i w hw
     have hw : (if ws.length <= sizeMax then some (W.lst ws) else none) = some w := hw
     split at hw
     ·rename_i hz
      cases hw
      rw [allW_some e2] at rr
      have rv := vrs_of_rrs rr
      refine ⟨by rw [vrs_len rv]; exact sz_line hz, fun p hp => ?_⟩
      exact EF.newL (EF.later ex hr' (ex.back hr') q) hr' hp rv
     ·cases hw
    ·exact q.elim
theorem wipe_out' {σ : Sg} {i : Nat} : ∀ {vs : List Nat}, i ∉ vs -> (L2.wipe σ vs)[i]? = σ[i]?
 | [], _ => rfl
 | v :: vs, h => by
  unfold L2.wipe
  rw [List.getElem?_set_ne (fun e => h (by simp [e]))]
  exact wipe_out' fun z => h (List.mem_cons_of_mem _ z)
theorem wipe_in {σ : Sg} {i : Nat} : ∀ {vs : List Nat}, i ∈ vs -> i < σ.length -> (L2.wipe σ vs)[i]? = some none
 | v :: vs, h, hl => by
  unfold L2.wipe
  by_cases e : v = i
  ·subst e
   rw [List.getElem?_set_self (by rw [wipe_length]; exact hl)]
  ·rw [List.getElem?_set_ne e]
   exact wipe_in ((List.mem_cons.mp h).resolve_left fun z => e z.symm) hl
def Sm (vs : List Nat) (σ σ' : Sg) : Prop := σ'.length = σ.length ∧ ∀ i, i ∉ vs -> σ'[i]? = σ[i]?
theorem Sm.refl {vs : List Nat} {σ : Sg} : Sm vs σ σ := ⟨rfl, fun _ _ => rfl⟩
theorem Sm.trans {vs : List Nat} {σ σ1 σ2 : Sg} (x : Sm vs σ σ1) (y : Sm vs σ1 σ2) : Sm vs σ σ2 := ⟨y.1.trans x.1, fun i h => (y.2 i h).trans (x.2 i h)⟩
theorem Sm.sub {vs us : List Nat} {σ σ' : Sg} (x : Sm vs σ σ') (k : ∀ i ∈ vs, i ∈ us) : Sm us σ σ' := ⟨x.1, fun i h => x.2 i fun z => h (k i z)⟩
theorem Sm.set {σ : Sg} {i : Nat} {v : Option V} : Sm [i] σ (σ.set i v) := ⟨by simp, fun j h => by rw [List.getElem?_set_ne (fun e => h (by simp [e]))]⟩
theorem Sm.wipe {vs : List Nat} {σ σ' : Sg} (x : Sm vs σ σ') : L2.wipe σ' vs = L2.wipe σ vs := by
 apply List.ext_getElem?
 intro i
 by_cases hi : i ∈ vs
 ·by_cases hl : i < σ.length
  ·rw [wipe_in hi hl, wipe_in hi (by rw [x.1]; exact hl)]
  ·rw [List.getElem?_eq_none (by rw [wipe_length, x.1]; omega), List.getElem?_eq_none (by rw [wipe_length]; omega)]
 ·rw [wipe_out' hi, wipe_out' hi]
  exact x.2 i hi
def RT (C : Ct) (H : Hp) (Z : Addr -> Prop) (ρ : List Addr) (t : T) (r : R) (v : V) : Prop := RR C H Z ρ r v ∨ ∃ ts ws a vs, t = .t ts ∧ r = .w (.tup ws) ∧ v = .ref a ∧ SqT C.K H a vs ∧ VRs C H Z ws vs
theorem rt_w {C : Ct} {H : Hp} {Z : Addr -> Prop} {ρ : List Addr} {t : T} {w : W} {v : V} (q : VR C H Z w v) : RT C H Z ρ t (.w w) v := .inl q
theorem rt_n {C : Ct} {H : Hp} {Z : Addr -> Prop} {ρ : List Addr} {i : Nat} {r : R} {v : V} (q : RT C H Z ρ (.n i) r v) : RR C H Z ρ r v := by
 rcases q with q | ⟨ts, _, _, _, e, _⟩ <;> simp_all
def gT (C : Ct) (t : T) : TG := fun v σ H Q => ∃ Z ρ env r env', ER C H Z ρ env σ ∧ RT C H Z ρ t r v ∧ setT t r env = some env' ∧ ∀ σ', ER C H Z ρ env' σ' -> Sm (slotsT t) σ σ' -> Q σ' H
theorem PG.imp {tg : Expr} {t t' : TG} (p : PG X tg t) (i : ∀ v σ H Q, t' v σ H Q -> t v σ H Q) : PG X tg t' := ⟨fun pins s σ H v u Q I r q => p.run pins s σ H v u Q I r (i _ _ _ _ q)⟩
theorem sg_name {i : Nat} {x : Str} {pos : Pos} (hN : X.N.Nodup) (hi : X.N[i]? = some x) (hx : Loc X.env.scope x) (hf : X.fn x = true ∨ X.env.scope.names.lookup x = some .local) : PG X (.Name x pos) (gT (ct N X) (.n i)) :=
 ⟨fun pins s σ H v u Q I r ⟨Z, ρ, env, r', env', er, rr, e, q⟩ => (pg_name hN hi hx hf).run pins s σ H v u Q I r (by
  cases e
  have hl : i < σ.length := by rw [I.len]; exact (List.getElem?_eq_some_iff.mp hi).1
  exact q _ (er.set (rt_n rr) hl) Sm.set)⟩
def ES (C : Ct) (Z0 : Addr -> Prop) (ρ : List Addr) (h : Hh) (H : Hp) (D : Ends) : Res Out -> Prop
 | .ok ⟨.nx, env'⟩ h' => ∀ ρ' H' σ', Ex ρ h H ρ' h' H' -> HR C Z0 ρ' h' H' -> ER C H' (Av ρ' h' Z0) ρ' env' σ' -> D.nx σ' H'
 | .ok ⟨.bk, env'⟩ h' => ∀ ρ' H' σ', Ex ρ h H ρ' h' H' -> HR C Z0 ρ' h' H' -> ER C H' (Av ρ' h' Z0) ρ' env' σ' -> D.bk σ' H'
 | .ok ⟨.rt r, _⟩ h' => ∀ ρ' H' v, Ex ρ h H ρ' h' H' -> HR C Z0 ρ' h' H' -> RR C H' (Av ρ' h' Z0) ρ' r v -> D.rt v H'
 | _ => False
def tEx (C : Ct) (x : Env -> Hh -> Res Out) : TS := fun D σ H => ∃ Z0 ρ h env, HR C Z0 ρ h H ∧ ER C H (Av ρ h Z0) ρ env σ ∧ ES C Z0 ρ h H D (x env h)
theorem PS.imp {st : Stmt} {t t' : TS} (p : PS X st t) (i : ∀ D σ H, t' D σ H -> t D σ H) : PS X st t' := ⟨fun pins s σ H D I q => p.run pins s σ H D I (i _ _ _ q)⟩
theorem PSs.imp {st : List Stmt} {t t' : TS} (p : PSs X st t) (i : ∀ D σ H, t' D σ H -> t D σ H) : PSs X st t' := ⟨fun pins s σ H D I q => p.run pins s σ H D I (i _ _ _ q)⟩
section
variable {C : Ct} {H H' : Hp} {Z0 : Addr -> Prop} {ρ ρ' : List Addr} {h h' : Hh} {D D' : Ends}
theorem ES.later (x : Ex ρ h H ρ' h' H') : ∀ {u : Res Out}, ES C Z0 ρ h H D u -> ES C Z0 ρ' h' H' D u
 | .ok ⟨.nx, _⟩ _, q => fun ρ2 H2 σ e hr rr => q ρ2 H2 σ (x.trans e) hr rr
 | .ok ⟨.bk, _⟩ _, q => fun ρ2 H2 σ e hr rr => q ρ2 H2 σ (x.trans e) hr rr
 | .ok ⟨.rt _, _⟩ _, q => fun ρ2 H2 v e hr rr => q ρ2 H2 v (x.trans e) hr rr
 | .ex _ _, q => q
 | .no, q => q
end
variable {fuel : Nat}
theorem ss_nil : PSs X [] (tEx (ct N X) (execs cl call fuel [])) := PSs.imp pss_nil fun D σ H ⟨Z0, ρ, h, env, hr, er, q⟩ => by
 unfold execs at q
 exact q ρ H σ .refl hr er
theorem ss_cons {st : Stmt} {rest : List Stmt} {i : S} {is : List S} (p1 : PS X st (tEx (ct N X) (exec cl call fuel i))) (p2 : PSs X rest (tEx (ct N X) (execs cl call fuel is))) : PSs X (st :: rest) (tEx (ct N X) (execs cl call fuel (i :: is))) :=
 PSs.imp (pss_cons p1 p2) fun D σ H ⟨Z0, ρ, h, env, hr, er, q⟩ => by
  refine ⟨Z0, ρ, h, env, hr, er, ?_⟩
  unfold execs at q
  cases e : exec cl call fuel i env h with
  | ex c v => rw [e] at q; exact q.elim
  | no => rw [e] at q; exact q.elim
  | ok o h1 =>
   rw [e] at q
   obtain ⟨fl, env1⟩ := o
   cases fl with
   | nx => exact fun ρ' H' σ' ex hr' er' => ⟨Z0, ρ', h1, env1, hr', er', ES.later ex q⟩
   | bk => exact q
   | rt r => exact q
theorem ss_exp {e : Expr} {ie : E} {pos : Pos} (p : PE X e (tEv (ct N X) (ev cl call ie))) (hs : swapsWith e none pos.line X.env = pure false) : PS X (.Expr e pos) (tEx (ct N X) (exec cl call fuel (.exp ie))) :=
 PS.imp (ps_expr p hs) fun D σ H ⟨Z0, ρ, h, env, hr, er, q⟩ => by
  refine ⟨Z0, ρ, h, env, hr, er, ?_⟩
  unfold exec at q
  cases e : ev cl call ie env h with
  | ex c v => rw [e] at q; exact q.elim
  | no => rw [e] at q; exact q.elim
  | ok r h1 => rw [e] at q; exact fun ρ' H' v ex hr' rr => q ρ' H' σ ex hr' (er.ex ex)
theorem ss_ret {e : Expr} {ie : E} {pos : Pos} (p : PE X e (tEv (ct N X) (ev cl call ie))) : PS X (.Return (some e) pos) (tEx (ct N X) (exec cl call fuel (.ret ie))) :=
 PS.imp (ps_ret p) fun D σ H ⟨Z0, ρ, h, env, hr, er, q⟩ => by
  refine ⟨Z0, ρ, h, env, hr, er, ?_⟩
  unfold exec at q
  cases e : ev cl call ie env h with
  | ex c v => rw [e] at q; exact q.elim
  | no => rw [e] at q; exact q.elim
  | ok r h1 => rw [e] at q; exact q
theorem ss_if {c : Expr} {a b : List Stmt} {ic : E} {ia ib : List S} {pos : Pos} (pc : PT X c (tEb (ct N X) (ev cl call ic))) (pa : PSs X a (tEx (ct N X) (execs cl call fuel ia))) (pb : PSs X b (tEx (ct N X) (execs cl call fuel ib))) : PS X (.If c a b pos) (tEx (ct N X) (exec cl call fuel (.ifs ic ia ib))) :=
 PS.imp (ps_if pc pa pb) fun D σ H ⟨Z0, ρ, h, env, hr, er, q⟩ => by
  refine ⟨Z0, ρ, h, env, hr, er, ?_⟩
  unfold exec at q
  cases e : ev cl call ic env h with
  | ex c v => rw [e] at q; exact q.elim
  | no => rw [e] at q; exact q.elim
  | ok r h1 =>
   rw [e] at q
   cases r with
   | loc n => exact q.elim
   | w w =>
    cases w with
    | bl b =>
     intro ρ' H' ex hr'
     cases b with
     | true =>
      exact ⟨Z0, ρ', h1, env, hr', er.ex ex, ES.later ex q⟩
     | false =>
      exact ⟨Z0, ρ', h1, env, hr', er.ex ex, ES.later ex q⟩
    | _ => exact q.elim
theorem asg_core {te : TE} {t : T} {ie : E} {D : Ends} {σ : Sg} {H : Hp} (i : ∀ Q, tEv (ct N X) (ev cl call ie) σ H Q -> te σ H Q) (q : tEx (ct N X) (exec cl call fuel (.asg t ie)) D σ H) : tAsg te (gT (ct N X) t) D σ H := by
 obtain ⟨Z0, ρ, h, env, hr, er, q⟩ := q
 refine i _ ⟨Z0, ρ, h, env, hr, er, ?_⟩
 unfold exec at q
 cases e : ev cl call ie env h with
 | ex c v => rw [e] at q; exact q.elim
 | no => rw [e] at q; exact q.elim
 | ok r h1 =>
  rw [e] at q
  intro ρ' H' v ex hr' rr
  dsimp only at q
  cases e2 : setT t r env with
  | none => rw [e2] at q; exact q.elim
  | some env' =>
   rw [e2] at q
   exact ⟨_, ρ', env, r, env', er.ex ex, .inl rr, e2, fun σ' er' sm => q ρ' H' σ' ex hr' er'⟩
theorem PS.len {st : Stmt} {t : TS} (p : PS X st t) {t' : TS} (i : ∀ D σ H, σ.length = X.N.length -> t' D σ H -> t D σ H) : PS X st t' := ⟨fun pins s σ H D I q => p.run pins s σ H D I (i _ _ _ I.len q)⟩
theorem gName_of {i : Nat} {v : V} {σ : Sg} {H : Hp} {Q : Sg -> Hp -> Prop} (hl : i < σ.length) (q : gT (ct N X) (.n i) v σ H Q) : gName i v σ H Q := by
 obtain ⟨Z, ρ, env, r, env', er, rr, e, q⟩ := q
 cases e
 exact q _ (er.set (rt_n rr) hl) Sm.set
theorem ss_set {i : Nat} {x : Str} {e : Expr} {ie : E} {pos pos' : Pos} (hN : X.N.Nodup) (hi : X.N[i]? = some x) (hx : Loc X.env.scope x) (p : PE X e (tEv (ct N X) (ev cl call ie))) (hs : swapsWith e (some (.Name x pos')) pos.line X.env = pure false)
  (hf : X.fn x = true ∨ X.env.scope.names.lookup x = some .local) : PS X (.Assign [.Name x pos'] e pos) (tEx (ct N X) (exec cl call fuel (.asg (.n i) ie))) :=
 ⟨fun pins s σ H D I q => (ps_set hN hi hx p hs hf).run pins s σ H D I (by
  have hl : i < σ.length := by rw [I.len]; exact (List.getElem?_eq_some_iff.mp hi).1
  have := asg_core (te := tEv (ct N X) (ev cl call ie)) (fun _ z => z) q
  obtain ⟨Z0, ρ, h, env, hr, er, q2⟩ := this
  exact ⟨Z0, ρ, h, env, hr, er, EQ.imp (fun v H' z => gName_of hl z) q2⟩)⟩
theorem ss_par {i j : Nat} {x y : Str} {a b : Expr} {ies : List E} {px py pt pos : Pos} {kt k2 pt2} (hc : X.calm = true) (hN : X.N.Nodup) (hi : X.N[i]? = some x) (hj : X.N[j]? = some y) (hij : i ≠ j)
  (hx : X.env.scope.names.lookup x = some .local) (hy : X.env.scope.names.lookup y = some .local) (ha : PA X [a, b] (tEvs (ct N X) (evs cl call ies)))
  (hw : swappedStores [.Tuple [.Name x px, .Name y py] kt pt] (.Tuple [a, b] k2 pt2) X.env = pure (some [x, y]))
  (hs : swapsWithSole [.Tuple [.Name x px, .Name y py] kt pt] (.Tuple [a, b] k2 pt2) pos.line X.env = pure false) :
  PS X (.Assign [.Tuple [.Name x px, .Name y py] kt pt] (.Tuple [a, b] k2 pt2) pos) (tEx (ct N X) (exec cl call fuel (.par [i, j] ies))) :=
 ⟨fun pins s σ H D I q => (ps_par hc hN hi hj hij hx hy ha hw hs).run pins s σ H D I (by
  have li : i < σ.length := by rw [I.len]; exact (List.getElem?_eq_some_iff.mp hi).1
  have lj : j < σ.length := by rw [I.len]; exact (List.getElem?_eq_some_iff.mp hj).1
  obtain ⟨Z0, ρ, h, env, hr, er, q⟩ := q
  refine ⟨Z0, ρ, h, env, hr, er, ?_⟩
  unfold exec at q
  cases e : evs cl call ies env h with
  | ex c v => rw [e] at q; exact q.elim
  | no => rw [e] at q; exact q.elim
  | ok rs h1 =>
   rw [e] at q
   dsimp only at q
   split at q
   ·rename_i hl
    intro ρ' H' vs ex hr' rr
    match rs, hl with
    | [r1, r2], _ =>
     obtain ⟨v, w, rfl, rv, rw'⟩ := rrs2 rr
     refine ⟨v, w, rfl, q ρ' H' _ ex hr' ?_⟩
     exact ((er.ex ex).set rv li).set rw' (by simpa using lj)
   ·exact q.elim)⟩
end
end Tf
namespace Tf
open PySem L2 PyProof.Rows
structure RawD (h : Heap) (a : Addr) (o : Obj) (n : Nat) (kv vv : List V) (es : Array DictEntry) (ep : Nat) : Prop where
 dt : o.data = .dict es ep
 raw : h.DictRaw a es ep
 sm : (a == sysModules) = false
 sz : es.size = n
 key : ∀ (i : Nat) (hi : i < es.size), ∃ x, kv[i]? = some x ∧ RelV x es[i].key
 val : ∀ (i : Nat) (hi : i < es.size), ∃ x, vv[i]? = some x ∧ RelV x es[i].val
section
variable {X : Cx} {pins : List (Addr × Obj)} {σ : L2.St} {H : Hp} {s : Shared} {a : Addr} {o : Obj} {ks : List W} {kv vv : List V}
end
theorem RawD.same {h h2 : Heap} {a : Addr} {o : Obj} {n : Nat} {kv vv : List V} {es es2 : Array DictEntry} {ep ep2 : Nat} (r : RawD h a o n kv vv es ep) (r2 : RawD h2 a o n kv vv es2 ep2) : es2 = es ∧ ep2 = ep := by
 have z := r.dt.symm.trans r2.dt
 simp_all
section
variable {P : Program} {w : World} {K : PySem.W.Frag} {tg : Expr} {a : Addr} {o : Obj} {ks : List W} {kv vv : List V} {es : Array DictEntry} {ep : Nat}
end
section
variable {X : Cx} {tg e : Expr} {te : TE} {apos cpos : Pos}
end
end Tf
namespace Tf
open PySem L2 PyProof.Rows
mutual
theorem sameW_eq : ∀ (a b : W), sameW a b = true -> a = b
 | .non, b, h => by cases b <;> first | rfl | (unfold sameW at h; cases h; done)
 | .bl x, b, h => by
  cases b <;> first | (unfold sameW at h; cases h; done) | skip
  rename_i y; unfold sameW at h; rw [beq_iff_eq.mp h]
 | .int x, b, h => by
  cases b <;> first | (unfold sameW at h; cases h; done) | skip
  unfold sameW at h; rw [of_decide_eq_true h]
 | .str x, b, h => by
  cases b <;> first | (unfold sameW at h; cases h; done) | skip
  unfold sameW at h; rw [of_decide_eq_true h]
 | .tup x, b, h => by
  cases b <;> first | (unfold sameW at h; cases h; done) | skip
  unfold sameW at h; rw [sameWs_eq _ _ h]
 | .lst x, b, h => by
  cases b <;> first | (unfold sameW at h; cases h; done) | skip
  unfold sameW at h; rw [sameWs_eq _ _ h]
 | .dct x y, b, h => by
  cases b <;> first | (unfold sameW at h; cases h; done) | skip
  unfold sameW at h; rw [Bool.and_eq_true] at h; rw [sameWs_eq _ _ h.1, sameWs_eq _ _ h.2]
 | .ins c n y, b, h => by
  cases b <;> first | (unfold sameW at h; cases h; done) | skip
  unfold sameW at h; rw [Bool.and_eq_true, Bool.and_eq_true] at h; rw [of_decide_eq_true h.1.1, of_decide_eq_true h.1.2, sameWs_eq _ _ h.2]
 | .exc c y, b, h => by
  cases b <;> first | (unfold sameW at h; cases h; done) | skip
  unfold sameW at h; rw [Bool.and_eq_true] at h; rw [of_decide_eq_true h.1, sameW_eq _ _ h.2]
 | .scr _, b, h => by cases b <;> (unfold sameW at h; cases h)
 | .rep _, b, h => by cases b <;> (unfold sameW at h; cases h)
theorem sameWs_eq : ∀ (a b : List W), sameWs a b = true -> a = b
 | [], [], _ => rfl
 | [], _ :: _, h => by unfold sameWs at h; cases h
 | _ :: _, [], h => by unfold sameWs at h; cases h
 | x :: xs, y :: ys, h => by unfold sameWs at h; rw [Bool.and_eq_true] at h; rw [sameW_eq _ _ h.1, sameWs_eq _ _ h.2]
end
theorem sameRs_eq : ∀ (a b : List R), sameRs a b = true -> a = b
 | [], [], _ => rfl
 | [], _ :: _, h => by unfold sameRs at h; cases h
 | .w _ :: _, [], h => by unfold sameRs at h; cases h
 | .loc _ :: _, [], h => by unfold sameRs at h; cases h
 | .w x :: xs, .w y :: ys, h => by unfold sameRs at h; rw [Bool.and_eq_true] at h; rw [sameW_eq _ _ h.1, sameRs_eq _ _ h.2]
 | .loc x :: xs, .loc y :: ys, h => by unfold sameRs at h; rw [Bool.and_eq_true] at h; rw [of_decide_eq_true h.1, sameRs_eq _ _ h.2]
 | .w _ :: _, .loc _ :: _, h => by unfold sameRs at h; cases h
 | .loc _ :: _, .w _ :: _, h => by unfold sameRs at h; cases h
theorem sameO_eq (a b : O) (h : sameO a b = true) : a = b := by
 cases a <;> cases b <;> first | (unfold sameO at h; cases h; done) | skip
 ·unfold sameO at h; rw [sameRs_eq _ _ h]
 ·unfold sameO at h; rw [Bool.and_eq_true] at h; rw [sameWs_eq _ _ h.1, sameRs_eq _ _ h.2]
 ·unfold sameO at h; rw [sameRs_eq _ _ h]
theorem still_mem {h : Hh} : ∀ {st : List (Nat × O)}, still h st = true -> ∀ p ∈ st, h[p.1]? = some p.2
 | [], _, p, hp => by simp_all
 | (l, o) :: r, q, p, hp => by
  unfold still at q
  rw [Bool.and_eq_true] at q
  rcases List.mem_cons.mp hp with e | hp
  ·subst e
   have q1 := q.1
   cases e : h[l]? with
   | none => simp_all
   | some o' => rw [e] at q1; exact congrArg some (sameO_eq _ _ q1).symm
  ·exact still_mem q.2 p hp
structure ExZ (Z0 Z1 : Addr -> Prop) (ρ : List Addr) (h : Hh) (H : Hp) (ρ' : List Addr) (h' : Hh) (H' : Hp) : Prop where
 pre : ∃ t, ρ' = ρ ++ t
 kp : ∀ a o, H a = some o -> ¬ Av ρ h Z0 a -> H' a = some o ∧ ¬ Av ρ' h' Z1 a
 tp : ∀ a xs, SqN H a xs -> SqN H' a xs
 xp : ∀ a o φ, H a = some (.frz o (.ext φ)) -> H' a = some (.frz o (.ext φ))
section
variable {C : Ct} {H H' H2 : Hp} {Z0 Z1 Z2 : Addr -> Prop} {ρ ρ' ρ2 : List Addr} {h h' h2 : Hh}
theorem ExZ.trans (x : ExZ Z0 Z1 ρ h H ρ' h' H') (y : ExZ Z1 Z2 ρ' h' H' ρ2 h2 H2) : ExZ Z0 Z2 ρ h H ρ2 h2 H2 where
 pre := by
  obtain ⟨t, rfl⟩ := x.pre
  obtain ⟨u, rfl⟩ := y.pre
  simp_all
 kp := fun a o e n => by
  obtain ⟨e1, n1⟩ := x.kp a o e n
  exact y.kp a o e1 n1
 tp := fun a xs e => y.tp a xs (x.tp a xs e)
 xp := fun a c v e => y.xp a c v (x.xp a c v e)
theorem ExZ.refl : ExZ Z0 Z0 ρ h H ρ h H := ⟨⟨[], by simp⟩, fun _ _ e n => ⟨e, n⟩, fun _ _ e => e, fun _ _ _ e => e⟩
theorem ExZ.sqT {a : Addr} {xs : List V} (x : ExZ Z0 Z1 ρ h H ρ' h' H') (s : SqN H a xs) : SqN H' a xs := x.tp _ _ s
theorem ExZ.get (x : ExZ Z0 Z1 ρ h H ρ' h' H') {n : Nat} {a : Addr} (e : ρ[n]? = some a) : ρ'[n]? = some a := by
 obtain ⟨t, rfl⟩ := x.pre
 grind
theorem ExZ.vr (x : ExZ Z0 Z1 ρ h H ρ' h' H') {w : W} {v : V} (r : VR C H (Av ρ h Z0) w v) : VR C H' (Av ρ' h' Z1) w v := VR.stay x.kp (fun _ _ s => x.sqT s) w v r
theorem ExZ.vrs (x : ExZ Z0 Z1 ρ h H ρ' h' H') {w : List W} {v : List V} (r : VRs C H (Av ρ h Z0) w v) : VRs C H' (Av ρ' h' Z1) w v := VRs.stay x.kp (fun _ _ s => x.sqT s) w v r
theorem ExZ.er (x : ExZ Z0 Z1 ρ h H ρ' h' H') {env : Env} {σ : Sg} (q : ER C H (Av ρ h Z0) ρ env σ) : ER C H' (Av ρ' h' Z1) ρ' env σ := fun i r e => by
 obtain ⟨v, e1, r1⟩ := q i r e
 refine ⟨v, e1, ?_⟩
 cases r with
 | w w => exact x.vr r1
 | loc n => obtain ⟨a, e2, r2⟩ := r1; exact ⟨a, x.get e2, r2⟩
theorem Ex.z (k : ∀ b, Z1 b -> Z0 b ∨ H b = none) (x : Ex ρ h H ρ' h' H') : ExZ Z0 Z1 ρ h H ρ' h' H' where
 pre := x.pre
 kp := fun a o e n => by
  obtain ⟨e1, n1⟩ := x.fr a o e fun z => n (.inl z)
  refine ⟨e1, fun z => z.elim n1 fun z => ?_⟩
  rcases k a z with z | z <;> simp_all
 tp := x.tp
 xp := x.xp
end
structure Src (C : Ct) (t : T) (J : It) (ws : List W) (st : List (Nat × O)) (Z0 : Addr -> Prop) (ρ : List Addr) (h : Hh) (H : Hp) : Prop where
 go : ∀ Z1 ρ' h' H', ExZ Z0 Z1 ρ h H ρ' h' H' -> HR C Z1 ρ' h' H' -> still h' st = true -> ∀ (i : Nat) (w : W), ws[i]? = some w -> J.go i H' ∧
  ∀ x H'', J.yld i H' x H'' -> (H'' = H' ∨ ∃ p o, H' p = none ∧ H'' = upd H' p o) ∧ RT C H'' (Av ρ' h' Z1) ρ' t (.w w) x
 stop : ∀ Z1 ρ' h' H', ExZ Z0 Z1 ρ h H ρ' h' H' -> HR C Z1 ρ' h' H' -> still h' st = true -> J.stop ws.length H'
section
variable {C : Ct} {H H' : Hp} {Z Z' Z0 Z1 : Addr -> Prop} {ρ ρ' : List Addr} {h h' : Hh}
theorem keep_z (k : ∀ b, Z1 b -> Z0 b ∨ H b = none) (x : Ex ρ h H ρ' h' H') : ∀ a o, H a = some o -> ¬ Av ρ h Z0 a -> H' a = some o ∧ ¬ Av ρ' h' Z1 a := fun a o e n => by
 obtain ⟨e1, n1⟩ := x.fr a o e fun z => n (.inl z)
 refine ⟨e1, fun z => z.elim n1 fun z => ?_⟩
 rcases k a z with z | z <;> simp_all
theorem VR.exz (k : ∀ b, Z1 b -> Z0 b ∨ H b = none) (x : Ex ρ h H ρ' h' H') {w : W} {v : V} (r : VR C H (Av ρ h Z0) w v) : VR C H' (Av ρ' h' Z1) w v := VR.stay (keep_z k x) (fun _ _ s => x.sqT s) w v r
theorem VRs.exz (k : ∀ b, Z1 b -> Z0 b ∨ H b = none) (x : Ex ρ h H ρ' h' H') {w : List W} {v : List V} (r : VRs C H (Av ρ h Z0) w v) : VRs C H' (Av ρ' h' Z1) w v := VRs.stay (keep_z k x) (fun _ _ s => x.sqT s) w v r
theorem ER.exz {env : Env} {σ : Sg} (k : ∀ b, Z1 b -> Z0 b ∨ H b = none) (x : Ex ρ h H ρ' h' H') (q : ER C H (Av ρ h Z0) ρ env σ) : ER C H' (Av ρ' h' Z1) ρ' env σ := fun i r e => by
 obtain ⟨v, e1, r1⟩ := q i r e
 refine ⟨v, e1, ?_⟩
 cases r with
 | w w => exact VR.exz k x r1
 | loc n => obtain ⟨a, e2, r2⟩ := r1; exact ⟨a, x.get e2, r2⟩
theorem Src.list {t : T} {a : Addr} {vs : List V} {ws : List W} (e : H a = some (.lst vs)) (n : ¬ Av ρ h Z0 a) (rv : VRs C H (Av ρ h Z0) ws vs) : Src C t (Itl C.K a) ws [] Z0 ρ h H where
 go := fun Z1 ρ' h' H' x hr _ i w hw => by
  have e1 := (x.kp a _ e n).1
  have rv' := x.vrs rv
  obtain ⟨v, hv, r⟩ := vrs_get rv' hw
  refine ⟨⟨vs, v, .of e1, hv⟩, fun y H'' q => ?_⟩
  obtain ⟨q1, q2⟩ := q
  subst q1
  have := q2 vs (.of e1)
  rw [hv] at this
  cases this
  exact ⟨.inl rfl, rt_w r⟩
 stop := fun Z1 ρ' h' H' x hr _ => ⟨vs, .of (x.kp a _ e n).1, by rw [vrs_len rv]; exact Nat.le_refl _⟩
theorem Src.scr {t : T} {a : Addr} {is : List Int} (hq : (Rd H a (.lst (is.map V.int)) ∧ ¬ Av ρ h Z0 a) ∨ LstK C.K a (is.map V.int)) : Src C t (Itl C.K a) (is.map .int) [] Z0 ρ h H where
 go := fun Z1 ρ' h' H' x hr _ i w hw => by
  have hs : SqL C.K H' a (is.map V.int) := by
   rcases hq with ⟨s | ⟨o, s⟩, n⟩ | s
   ·exact .inl (.inl (x.kp a _ s n).1)
   ·exact .inl (.inr ⟨o, (x.kp a _ s n).1⟩)
   ·exact .inr s
  rw [List.getElem?_map] at hw
  cases e : is[i]? with
  | none => simp_all
  | some j =>
   rw [e] at hw
   cases hw
   have hv : (is.map V.int)[i]? = some (.int j) := by simp_all
   refine ⟨⟨_, _, hs, hv⟩, fun y H'' q => ?_⟩
   obtain ⟨q1, q2⟩ := q
   subst q1
   have := q2 _ hs
   rw [hv] at this
   cases this
   exact ⟨.inl rfl, rt_w vr_int_i⟩
 stop := fun Z1 ρ' h' H' x hr _ => by
  have hs : SqL C.K H' a (is.map V.int) := by
   rcases hq with ⟨s | ⟨o, s⟩, n⟩ | s
   ·exact .inl (.inl (x.kp a _ s n).1)
   ·exact .inl (.inr ⟨o, (x.kp a _ s n).1⟩)
   ·exact .inr s
  exact ⟨_, hs, by simp⟩
theorem Src.live {t : T} {l : Nat} {a : Addr} {ws : List W} (e : ρ[l]? = some a) : Src C t (Itl C.K a) ws [(l, .lst (ws.map .w))] Z0 ρ h H where
 go := fun Z1 ρ' h' H' x hr hs i w hw => by
  have e2 : h'[l]? = some (.lst (ws.map .w)) := still_mem hs (l, .lst (ws.map .w)) (by simp)
  obtain ⟨vs, e3, rr⟩ := hr.ob l _ a e2 (x.get e) (by intro z; cases z)
  have rv := vrs_of_rrs rr
  obtain ⟨v, hv, r⟩ := vrs_get rv hw
  refine ⟨⟨vs, v, .of e3, hv⟩, fun y H'' q => ?_⟩
  obtain ⟨q1, q2⟩ := q
  subst q1
  have := q2 vs (.of e3)
  rw [hv] at this
  cases this
  exact ⟨.inl rfl, rt_w r⟩
 stop := fun Z1 ρ' h' H' x hr hs => by
  have e2 : h'[l]? = some (.lst (ws.map .w)) := still_mem hs (l, .lst (ws.map .w)) (by simp)
  obtain ⟨vs, e3, rr⟩ := hr.ob l _ a e2 (x.get e) (by intro z; cases z)
  exact ⟨vs, .of e3, by rw [vrs_len (vrs_of_rrs rr)]; exact Nat.le_refl _⟩
theorem Src.tup {t : T} {a : Addr} {vs : List V} {ws : List W} (e : SqN H a vs) (rv : VRs C H (Av ρ h Z0) ws vs) : Src C t (Itt C.K a) ws [] Z0 ρ h H where
 go := fun Z1 ρ' h' H' x hr _ i w hw => by
  have e1 : SqT C.K H' a vs := (x.sqT e).t
  have rv' := x.vrs rv
  obtain ⟨v, hv, r⟩ := vrs_get rv' hw
  refine ⟨⟨vs, v, e1, hv⟩, fun y H'' q => ?_⟩
  obtain ⟨q1, q2⟩ := q
  subst q1
  have := q2 vs e1
  rw [hv] at this
  cases this
  exact ⟨.inl rfl, rt_w r⟩
 stop := fun Z1 ρ' h' H' x hr _ => ⟨vs, (x.sqT e).t, by rw [vrs_len rv]; exact Nat.le_refl _⟩
theorem Src.str {t : T} {s : Tx} : Src C t (Its (tx s)) (s.map fun c => .str [c]) [] Z0 ρ h H where
 go := fun Z1 ρ' h' H' x hr _ i w hw => by
  rw [List.getElem?_map] at hw
  cases e : s[i]? with
  | none => simp_all
  | some c =>
   rw [e] at hw
   cases hw
   refine ⟨?_, fun y H'' q => ?_⟩
   ·show i < (s.toArray).size
    simpa using (List.getElem?_eq_some_iff.mp e).1
   ·obtain ⟨q1, c', q2, q3⟩ := q
    subst q1
    have q2 : s.toArray[i]? = some c' := q2
    rw [List.getElem?_toArray, e] at q2
    cases q2
    refine ⟨.inl rfl, rt_w ?_⟩
    rw [q3]
    rfl
 stop := fun Z1 ρ' h' H' x hr _ => by
  show (s.toArray).size <= _
  simp
theorem rangeW_len (lo : Int) : ∀ n, (rangeW lo n).length = n
 | 0 => rfl
 | n + 1 => by unfold rangeW; rw [List.length_cons, rangeW_len (lo + 1) n]
theorem rangeW_get : ∀ (n : Nat) (lo : Int) (i : Nat), i < n -> (rangeW lo n)[i]? = some (.int (lo + i))
 | 0, lo, i, h => by omega
 | n + 1, lo, 0, h => by unfold rangeW; simp
 | n + 1, lo, i + 1, h => by
  unfold rangeW
  rw [List.getElem?_cons_succ, rangeW_get n (lo + 1) i (by omega)]
  congr 2
  omega
theorem Src.range {t : T} {lo : Int} {n : Nat} : Src C t (Itr lo n) (rangeW lo n) [] Z0 ρ h H where
 go := fun Z1 ρ' h' H' x hr _ i w hw => by
  have hi : i < n := by grind [rangeW_len]
  rw [rangeW_get n lo i hi] at hw
  cases hw
  refine ⟨hi, fun y H'' q => ?_⟩
  obtain ⟨q1, q2⟩ := q
  subst q1 q2
  exact ⟨.inl rfl, rt_w vr_int_i⟩
 stop := fun Z1 ρ' h' H' x hr _ => by
  rw [rangeW_len]; exact Nat.le_refl _
end
def iSr (C : Ct) (t : T) (k : IK) (xs : Env -> Hh -> Res (List R)) : TI := fun σ H R => ∃ Z0 ρ h env, HR C Z0 ρ h H ∧ ER C H (Av ρ h Z0) ρ env σ ∧ match xs env h with
 | .ok rs h1 => (match walk k rs h1 with
  | some (ws, st) => ∀ ρ1 H1 J, Ex ρ h H ρ1 h1 H1 -> HR C Z0 ρ1 h1 H1 -> Src C t J ws st Z0 ρ1 h1 H1 -> R J H1
  | none => False)
 | _ => False
section
variable {X : Cx} {N : Nm} {cl : Cls} {call : Call}
theorem iSr.shape {C : Ct} {t : T} {k : IK} {xs : Env -> Hh -> Res (List R)} {σ : Sg} {H : Hp} {Rr : It -> Hp -> Prop} (q : iSr C t k xs σ H Rr) : ∃ Z0 ρ h env rs h1 ws st, HR C Z0 ρ h H ∧ ER C H (Av ρ h Z0) ρ env σ ∧ xs env h = .ok rs h1 ∧ walk k rs h1 = some (ws, st) ∧ ∀ ρ1 H1 J, Ex ρ h H ρ1 h1 H1 -> HR C Z0 ρ1 h1 H1 -> Src C t J ws st Z0 ρ1 h1 H1 -> Rr J H1 := by
 obtain ⟨Z0, ρ, h, env, hr, er, q⟩ := q
 split at q
 ·split at q
  ·rename_i e1 _ _ _ e2
   exact ⟨Z0, ρ, h, env, _, _, _, _, hr, er, e1, e2, q⟩
  ·simp_all
 ·simp_all
theorem evs1 {e : E} {env : Env} {h h1 : Hh} {rs : List R} (q : evs cl call [e] env h = .ok rs h1) : ∃ r, rs = [r] ∧ ev cl call e env h = .ok r h1 := by
 unfold evs at q
 cases e1 : ev cl call e env h with
 | ex c v => simp_all
 | no => simp_all
 | ok r h2 =>
  simp only [evs] at q
  simp_all
theorem walkW_range {rs : List R} {h1 : Hh} {ws : List W} {st : List (Nat × O)} (e : walk .range rs h1 = some (ws, st)) : st = [] ∧ ((∃ n : Int, rs = [.w (.int n)] ∧ (-1000000000 < n ∧ n < 1000000) ∧ ws = rangeW 0 n.toNat) ∨ ∃ a b : Int, rs = [.w (.int a), .w (.int b)] ∧ (b - a < 1000000 ∧ -1000000000 < a ∧ a < 1000000000 ∧ -1000000000 < b) ∧ ws = rangeW a (b - a).toNat) := by
 unfold walk at e
 split at e
 ·rename_i us e1
  have := allW_some e1
  subst this
  unfold walkW at e
  split at e
  ·simp_all
  ·simp_all
  ·rename_i a b h
   split at e
   ·rename_i hn
    cases e
    exact ⟨rfl, .inr ⟨a, b, rfl, hn, rfl⟩⟩
   ·cases e
  all_goals first | (rename_i h; cases h; done) | (rename_i h _; cases h; done) | (cases e; done) | skip
 ·simp_all
end
end Tf
namespace Tf
open PySem L2 PyProof.Rows
section
variable {X : Cx} {N : Nm} {cl : Cls} {call : Call} {fuel : Nat}
theorem evsA {C : Ct} {ies : List E} {Z0 : Addr -> Prop} {ρ : List Addr} {h h1 : Hh} {H : Hp} {env : Env} {σ : Sg} {rs : List R} {K : List V -> Hp -> Prop} (hr : HR C Z0 ρ h H) (er : ER C H (Av ρ h Z0) ρ env σ) (e : evs cl call ies env h = .ok rs h1)
  (k : ∀ H1 ρ1 v, Nx C Z0 ρ h H env σ H1 ρ1 h1 -> RRs C H1 (Av ρ1 h1 Z0) ρ1 rs v -> K v H1) : tEvs C (evs cl call ies) σ H K := tEvs.bind hr er e k
theorem evs_len : ∀ {ies : List E} {env : Env} {h h1 : Hh} {rs : List R}, evs cl call ies env h = .ok rs h1 -> rs.length = ies.length
 | [], env, h, h1, rs, e => by unfold evs at e; injection e with e _; rw [<- e]; rfl
 | i :: is, env, h, h1, rs, e => by
  unfold evs at e
  cases e1 : ev cl call i env h with
  | ex c v => simp_all
  | no => simp_all
  | ok r h2 =>
   rw [e1] at e
   dsimp only at e
   cases e2 : evs cl call is env h2 with
   | ex c v => simp_all
   | no => simp_all
   | ok rs' h3 =>
    rw [e2] at e
    injection e with e _
    rw [<- e, List.length_cons, List.length_cons, evs_len e2]
theorem si_range1 {t : T} {tg a : Expr} {ia : E} {p pos : Pos} (hg : Gl X "range") (hm : X.mg "range" = none) (ha : PA X [a] (tEvs (ct N X) (evs cl call [ia]))) (hs : starEach [a] X.env = [(false, eval a X.env)]) :
  PI X tg (.Call (.Name "range" p) [a] [] pos) (iSr (ct N X) t .range (evs cl call [ia])) :=
 ⟨fun pins s σ H Rr I q => by
  obtain ⟨Z0, ρ, h, env, rs, h1, ws, st, hr, er, e1, e2, q⟩ := q.shape
  obtain ⟨rfl, e3⟩ := walkW_range e2
  have hl := evs_len e1
  refine (pi_range1 hg hm ha hs).run pins s σ H Rr I (evsA hr er e1 fun H1 ρ1 v n1 rr => ?_)
  rcases e3 with ⟨n, rfl, hn, rfl⟩ | ⟨x, y, rfl, hn, rfl⟩
  ·obtain ⟨v, rfl, r1⟩ := rrs1 rr
   have := rr_int r1
   subst this
   exact ⟨n, rfl, by omega, by omega, q ρ1 H1 _ n1.ex n1.hr Src.range⟩
  ·simp at hl⟩
theorem yl_ex {C : Ct} {Z1 : Addr -> Prop} {ρ' : List Addr} {h' : Hh} {H' H'' : Hp} (hr : HR C Z1 ρ' h' H') (y : H'' = H' ∨ ∃ p o, H' p = none ∧ H'' = upd H' p o) : Ex ρ' h' H' ρ' h' H'' ∧ HR C Z1 ρ' h' H'' := by
 rcases y with rfl | ⟨p, o, e, rfl⟩
 ·exact ⟨.refl, hr⟩
 ·exact ⟨Ex.fresh hr e, hr.fresh e⟩
theorem ss_whl {c : Expr} {body : List Stmt} {ic : E} {ib : List S} {pos : Pos} (hp : PassesOwn (model X.prog X.w) X.A X.env X.xe) (pc : PT X c (tEb (ct N X) (ev cl call ic))) (pb : PSs X body (tEx (ct N X) (execs cl call fuel ib))) : PS X (.While c body [] pos) (tEx (ct N X) (exec cl call fuel (.whl ic ib))) :=
 PS.imp (ps_while hp pc pb) fun D σ H ⟨Z0, ρ, h, env, hr, er, q⟩ => by
  let P : Nat -> Sg -> Hp -> Prop := fun m σ' H' => ∃ ρ' h' env', Ex ρ h H ρ' h' H' ∧ HR (ct N X) Z0 ρ' h' H' ∧ ER (ct N X) H' (Av ρ' h' Z0) ρ' env' σ' ∧ ES (ct N X) Z0 ρ' h' H' D (whlLoop (ev cl call ic) (execs cl call fuel ib) m env' h')
  refine ⟨P, ⟨fuel, ρ, h, env, .refl, hr, er, q⟩, ?_⟩
  rintro m σ1 H1 ⟨ρ1, h1, env1, ex1, hr1, er1, q1⟩
  cases m with
  | zero => exact q1.elim
  | succ m =>
   unfold whlLoop at q1
   refine ⟨Z0, ρ1, h1, env1, hr1, er1, ?_⟩
   cases e : ev cl call ic env1 h1 with
   | ex c v => rw [e] at q1; exact q1.elim
   | no => rw [e] at q1; exact q1.elim
   | ok r h2 =>
    rw [e] at q1
    cases r with
    | loc n => exact q1.elim
    | w w =>
     cases w with
     | bl b =>
      intro ρ2 H2 ex2 hr2
      cases b with
      | false =>
       exact q1 ρ2 H2 σ1 ex2 hr2 (er1.ex ex2)
      | true =>
       refine ⟨P m, fun σ' H' p => ⟨m, Nat.lt_succ_self _, p⟩, ?_⟩
       refine ⟨Z0, ρ2, h2, env1, hr2, er1.ex ex2, ?_⟩
       dsimp only at q1
       cases eb : execs cl call fuel ib env1 h2 with
       | ex c v => rw [eb] at q1; exact q1.elim
       | no => rw [eb] at q1; exact q1.elim
       | ok o h3 =>
        rw [eb] at q1
        obtain ⟨fl, env2⟩ := o
        cases fl with
        | nx => exact fun ρ3 H3 σ3 ex3 hr3 er3 => ⟨ρ3, h3, env2, (ex1.trans ex2).trans ex3, hr3, er3, ES.later (ex2.trans ex3) q1⟩
        | bk => exact fun ρ3 H3 σ3 ex3 hr3 er3 => q1 ρ3 H3 σ3 (ex2.trans ex3) hr3 er3
        | rt r => exact fun ρ3 H3 v ex3 hr3 rr => q1 ρ3 H3 v (ex2.trans ex3) hr3 rr
     | _ => exact q1.elim
end
end Tf
namespace Tf
open PySem L2 PyProof.Rows
section
variable {C : Ct} {H H' : Hp} {Z Z' Z0 Z1 : Addr -> Prop} {ρ ρ' : List Addr} {h h' : Hh} {p : Addr} {o u : HO}
def NoT (o : HO) : Prop := ∀ xs, o ≠ .tup xs ∧ ∀ u x, o ≠ .frz u x
theorem noT_lst {xs : List V} : NoT (.lst xs) := fun ys => ⟨(by intro z; cases z), fun u x z => by cases z⟩
theorem noT_dct {w : World} {a : Addr} {ob : Obj} {ks : List W} {kv vv : List V} : NoT (dictO w a ob ks kv vv) := fun ys => ⟨(by intro z; cases z), fun u x z => by cases z⟩
theorem sqT_upd (e : H p = some o) (nt : NoT o) {a : Addr} {xs : List V} (s : SqN H a xs) : SqN (upd H p u) a xs := by
 obtain ⟨v, s, d⟩ := s
 exact ⟨v, by rw [upd_ne (fun z => by subst z; rw [e] at s; exact (nt xs).2 v _ (Option.some.inj s))]; exact s, d⟩
theorem xo_upd (e : H p = some o) (nt : NoT o) {a c : Addr} {y : V} (s : XoN H a c y) : XoN (upd H p u) a c y := by
 obtain ⟨dx, v, t, φ, s1, sz, s2⟩ := s
 exact ⟨dx, v, t, φ, by rw [upd_ne (fun z => by subst z; rw [e] at s1; exact (nt []).2 _ _ (Option.some.inj s1))]; exact s1, sz, by rw [upd_ne (fun z => by subst z; rw [e] at s2; exact (nt []).2 _ _ (Option.some.inj s2))]; exact s2⟩
theorem VR.upd (e : H p = some o) (nt : NoT o) (z : Z p) {w : W} {v : V} (r : VR C H Z w v) : VR C (L2.upd H p u) Z w v :=
 VR.stay (fun a x q n => ⟨by rw [upd_ne (fun y => n (by rw [y]; exact z))]; exact q, n⟩) (fun _ _ s => sqT_upd e nt s) w v r
theorem VRs.upd (e : H p = some o) (nt : NoT o) (z : Z p) {w : List W} {v : List V} (r : VRs C H Z w v) : VRs C (L2.upd H p u) Z w v :=
 VRs.stay (fun a x q n => ⟨by rw [upd_ne (fun y => n (by rw [y]; exact z))]; exact q, n⟩) (fun _ _ s => sqT_upd e nt s) w v r
theorem RR.upd (e : H p = some o) (nt : NoT o) (z : Z p) : ∀ {r : R} {v : V}, RR C H Z ρ r v -> RR C (L2.upd H p u) Z ρ r v
 | .w w, v, r => VR.upd e nt z r
 | .loc n, v, r => r
theorem RRs.upd (e : H p = some o) (nt : NoT o) (z : Z p) : ∀ {rs : List R} {vs : List V}, RRs C H Z ρ rs vs -> RRs C (L2.upd H p u) Z ρ rs vs
 | [], vs, r => r
 | r :: rs, vs, ⟨v, t, e0, q, qs⟩ => ⟨v, t, e0, RR.upd e nt z q, RRs.upd e nt z qs⟩
theorem OR.upd (e : H p = some o) (nt : NoT o) (z : Z p) {a : Addr} {x : O} (q : OR C H Z ρ a x) (ne : a ≠ p) : OR C (L2.upd H p u) Z ρ a x := by
 cases x with
 | lst rs => obtain ⟨vs, e1, r⟩ := q; exact ⟨vs, by rw [upd_ne ne]; exact e1, RRs.upd e nt z r⟩
 | dct ks us => obtain ⟨kv, vv, ⟨ob, e1⟩, r1, r2⟩ := q; exact ⟨kv, vv, ⟨ob, by rw [upd_ne ne]; exact e1⟩, VRs.upd e nt z r1, RRs.upd e nt z r2⟩
 | ins c ns us => obtain ⟨dx, fs, e1, e2, r⟩ := q; exact ⟨dx, fs, by rw [upd_ne ne]; exact e1, e2, RRs.upd e nt z r⟩
 | tup rs => obtain ⟨vs, e1, r⟩ := q; exact ⟨vs, sqT_upd e nt e1, RRs.upd e nt z r⟩
 | exc c r => obtain ⟨y, e1, r⟩ := q; exact ⟨y, xo_upd e nt e1, RR.upd e nt z r⟩
 | dead => trivial
theorem HR.updZ (x : HR C Z1 ρ h H) (z : Z1 p) (e : H p = some o) (nt : NoT o) : HR C Z1 ρ h (L2.upd H p u) where
 len := x.len
 nd := x.nd
 ob := fun n v a h1 h2 d => OR.upd e nt (.inr z) (x.ob n v a h1 h2 d) fun y => x.dj a (List.mem_of_getElem? h2) (by rw [y]; exact z)
 zd := fun a q => by
  by_cases y : a = p
  ·subst y; exact ⟨u, upd_same⟩
  ·obtain ⟨v, q⟩ := x.zd a q
   exact ⟨v, by rw [upd_ne y]; exact q⟩
 tr := fun a q => by
  by_cases y : a = p
  ·subst y; exact ⟨u, upd_same⟩
  ·obtain ⟨v, q⟩ := x.tr a q
   exact ⟨v, by rw [upd_ne y]; exact q⟩
 dj := x.dj
theorem Ex.updN (x : Ex ρ h H ρ' h' H') (e : H p = none) : Ex ρ h H ρ' h' (L2.upd H' p u) where
 pre := x.pre
 fr := fun a v q n => by
  obtain ⟨q1, q2⟩ := x.fr a v q n
  exact ⟨by rw [upd_ne (ne_of_none q e)]; exact q1, q2⟩
 tp := fun a xs q => by
  have ne : a ≠ p := by
   obtain ⟨v, q, _⟩ := q
   exact ne_of_none q e
  obtain ⟨v, q, d⟩ := x.tp a xs q
  exact ⟨v, by rw [upd_ne ne]; exact q, d⟩
 xp := fun a o φ q => by rw [upd_ne (ne_of_none q e)]; exact x.xp _ _ _ q
theorem HR.notLive (x : HR C Z1 ρ h H) (z : Z1 p) : ¬ Live ρ h p := fun ⟨n, v, e, _, _⟩ => x.dj p (List.mem_of_getElem? e) z
end
theorem Sm.wiped {vs : List Nat} {σ : Sg} : Sm vs σ (L2.wipe σ vs) := ⟨wipe_length σ vs, fun _ h => wipe_out' h⟩
theorem tfwipe_some {env : Env} {i : Nat} {r : R} : ∀ {vs : List Nat}, (Tf.wipe vs env)[i]? = some (some r) -> env[i]? = some (some r) ∧ i ∉ vs
 | [], h => ⟨h, by simp⟩
 | v :: vs, h => by
  unfold Tf.wipe at h
  by_cases hi : v = i
  ·by_cases hv : v < (Tf.wipe vs env).length <;> simp_all
  ·rw [List.getElem?_set_ne hi] at h
   obtain ⟨h1, h2⟩ := tfwipe_some h
   exact ⟨h1, by simp only [List.mem_cons, not_or]; exact ⟨fun e => hi e.symm, h2⟩⟩
theorem ER.wipe {C : Ct} {H : Hp} {Z : Addr -> Prop} {ρ : List Addr} {env : Env} {σ : Sg} {ss vs : List Nat} (er : ER C H Z ρ env σ) (k : ∀ i ∈ vs, i ∈ ss) : ER C H Z ρ (Tf.wipe ss env) (L2.wipe σ vs) := fun i r e => by
 obtain ⟨e1, e2⟩ := tfwipe_some e
 obtain ⟨v, e3, rr⟩ := er i r e1
 exact ⟨v, by rw [wipe_out' fun z => e2 (k i z)]; exact e3, rr⟩
def tTs (C : Ct) (x : Env -> Hh -> Res Bool) : TT := fun σ H Q => ∃ Z0 ρ h env, HR C Z0 ρ h H ∧ ER C H (Av ρ h Z0) ρ env σ ∧ match x env h with
 | .ok b h' => ∀ ρ' H', Ex ρ h H ρ' h' H' -> HR C Z0 ρ' h' H' -> Q b H'
 | _ => False
theorem PTs.imp {X : Cx} {ifs : List Expr} {t t' : TT} (p : PTs X ifs t) (i : ∀ σ H Q, t' σ H Q -> t σ H Q) : PTs X ifs t' := ⟨fun pins s σ H Q I q => p.run pins s σ H Q I (i _ _ _ q)⟩
section
variable {X : Cx} {N : Nm} {cl : Cls} {call : Call}
theorem st_nil : PTs X [] (tTs (ct N X) (tests cl call [])) := PTs.imp pts_nil fun σ H Q ⟨Z0, ρ, h, env, hr, er, q⟩ => by
 unfold tests at q
 exact q ρ H .refl hr
theorem st_one {c : Expr} {ic : E} (p : PT X c (tEb (ct N X) (ev cl call ic))) : PTs X [c] (tTs (ct N X) (tests cl call [ic])) := PTs.imp (pts_one p) fun σ H Q ⟨Z0, ρ, h, env, hr, er, q⟩ => by
 unfold tests at q
 refine ⟨Z0, ρ, h, env, hr, er, ?_⟩
 cases e : ev cl call ic env h with
 | ex c v => simp_all
 | no => simp_all
 | ok r h1 =>
  rw [e] at q
  cases r with
  | loc n => simp_all
  | w w =>
   cases w with
   | bl b => cases b <;> (simp only [tests] at q; exact q)
   | _ => simp_all
def lcB (cs : List E) (e : E) : Env -> Hh -> Res (List W) := fun env' h2 => match tests cl call cs env' h2 with
 | .ok true h3 => asW (ev cl call e env' h3)
 | .ok false h3 => .ok [] h3
 | _ => .no
theorem asW_ok {x : Res R} {ws : List W} {h' : Hh} (e : asW x = .ok ws h') : ∃ w, x = .ok (.w w) h' ∧ ws = [w] := by
 unfold asW at e
 split at e <;> simp_all
theorem lc_turns {C : Ct} {J : It} {ws xs : List W} {st : List (Nat × O)} {Z0 : Addr -> Prop} {ρ1 : List Addr} {h1 h4 : Hh} {H1 : Hp} {t : T} {cs : List E} {e : E} {σ : Sg} {env : Env} {vs : List Nat} {D : Addr} {Qd : Hp -> Prop} (S : Src C t J ws st Z0 ρ1 h1 H1) (hr : HR C Z0 ρ1 h1 H1) (er : ER C H1 (Av ρ1 h1 Z0) ρ1 env σ)
  (hd : H1 D = none) (k1 : ∀ i ∈ vs, i ∈ slotsT t) (k2 : ∀ i ∈ slotsT t, i ∈ vs) (hl : lcLoop t (Tf.wipe (slotsT t) env) st (lcB (cl := cl) (call := call) cs e) ws h1 = .ok xs h4) (hz : xs.length <= sizeMax)
  (q : ∀ ρ' H' acc, Ex ρ1 h1 H1 ρ' h4 H' -> HR C (Zp Z0 D) ρ' h4 H' -> H' D = some (.lst acc) -> VRs C H' (Av ρ' h4 (Zp Z0 D)) xs acc -> Qd H') :
  ∃ W : Nat -> Nat -> Hp -> Prop, (∃ m, W 0 m (upd H1 D (.lst []))) ∧ ∀ i m H, W i m H ->
   (J.stop i H ∧ Qd H) ∨ (J.go i H ∧ ∃ Nn : Hp -> Prop, (∀ H', Nn H' -> ∃ m', m' < m ∧ W (i + 1) m' H') ∧ ∀ x H', J.yld i H x H' -> gT C t x (L2.wipe σ vs) H' fun σ2 H2 => L2.wipe σ2 vs = L2.wipe σ vs ∧ tTs C (tests cl call cs) σ2 H2 fun b H3 =>
    if b = true then tEv C (ev cl call e) σ2 H3 fun y H4 => ∃ acc, H4 D = some (.lst acc) ∧ acc.length < sizeLine ∧ Nn (upd H4 D (.lst (acc ++ [y]))) else Nn H3) := by
 have kz : ∀ b, Zp Z0 D b -> Z0 b ∨ H1 b = none := by grind
 let P : Nat -> Hp -> Prop := fun i H => ∃ ρ' h' acc done ys, Ex ρ1 h1 H1 ρ' h' H ∧ HR C (Zp Z0 D) ρ' h' H ∧ H D = some (.lst acc) ∧ VRs C H (Av ρ' h' (Zp Z0 D)) done acc ∧ lcLoop t (Tf.wipe (slotsT t) env) st (lcB (cl := cl) (call := call) cs e) (ws.drop i) h' = .ok ys h4 ∧ done ++ ys = xs
 refine ⟨fun i m H => m = ws.length - i ∧ i <= ws.length ∧ P i H, ⟨ws.length, by simp, Nat.zero_le _, ρ1, h1, [], [], xs, Ex.fresh hr hd, hr.freshP hd, upd_same, by unfold VRs; rfl, by simpa using hl, rfl⟩, ?_⟩
 rintro i m H ⟨rfl, hi, ρ', h', acc, done, ys, ex, hr', hD, rv, hl, hx⟩
 by_cases hlt : i < ws.length
 ·have hdr : ws.drop i = ws[i] :: ws.drop (i + 1) := List.drop_eq_getElem_cons hlt
  rw [hdr] at hl
  unfold lcLoop at hl
  split at hl
  case isFalse => cases hl
  rename_i hs
  obtain ⟨g1, g2⟩ := S.go (Zp Z0 D) ρ' h' H (ex.z kz) hr' hs i ws[i] (by simp [hlt])
  cases es : setT t (.w ws[i]) (Tf.wipe (slotsT t) env) with
  | none => simp_all
  | some env1 =>
   rw [es] at hl
   refine .inr ⟨g1, P (i + 1), fun H' p => ⟨ws.length - (i + 1), by omega, rfl, hlt, p⟩, fun x H' y => ?_⟩
   obtain ⟨y1, y2⟩ := g2 x H' y
   obtain ⟨ex2, hr2⟩ := yl_ex hr' y1
   have exA := ex.trans ex2
   have er2 := (ER.exz kz exA er).wipe k1
   refine ⟨_, ρ', _, .w ws[i], env1, er2, y2, es, fun σ2 er3 sm => ⟨?_, ?_⟩⟩
   ·rw [(Sm.sub sm k2).wipe]
    exact Sm.wiped.wipe
   ·have hD2 : H' D = some (.lst acc) := (ex2.fr D _ hD (hr'.notLive (.inr rfl))).1
    have rv2 : VRs C H' (Av ρ' h' (Zp Z0 D)) done acc := VRs.ex ex2 rv
    refine ⟨_, ρ', h', env1, hr2, er3, ?_⟩
    cases et : tests cl call cs env1 h' with
    | ex c v => simp only [lcB, et] at hl; cases hl
    | no => simp only [lcB, et] at hl; cases hl
    | ok b h3 =>
     intro ρ3 H3 ex3 hr3
     have hD3 : H3 D = some (.lst acc) := (ex3.fr D _ hD2 (hr2.notLive (.inr rfl))).1
     have rv3 := VRs.ex ex3 rv2
     cases b with
     | false =>
      rw [if_neg (by decide)]
      simp only [lcB, et] at hl
      cases el : lcLoop t (Tf.wipe (slotsT t) env) st (lcB (cl := cl) (call := call) cs e) (ws.drop (i + 1)) h3 with
      | ex c v => simp_all
      | no => rw [el] at hl; cases hl
      | ok zs h5 =>
       rw [el] at hl
       injection hl with hl1 hl2
       subst hl2
       refine ⟨ρ3, h3, acc, done, zs, exA.trans ex3, hr3, hD3, rv3, el, ?_⟩
       simp_all
     | true =>
      rw [if_pos rfl]
      refine ⟨_, ρ3, h3, env1, hr3, er3.ex ex3, ?_⟩
      simp only [lcB, et] at hl
      cases ee : asW (ev cl call e env1 h3) with
      | ex c v => rw [ee] at hl; cases hl
      | no => rw [ee] at hl; cases hl
      | ok us h5 =>
       obtain ⟨w, ew, rfl⟩ := asW_ok ee
       rw [ee] at hl
       dsimp only at hl
       rw [ew]
       intro ρ4 H4 yv ex4 hr4 ry
       have hD4 : H4 D = some (.lst acc) := (ex4.fr D _ hD3 (hr3.notLive (.inr rfl))).1
       have rv4 := VRs.ex ex4 rv3
       cases el : lcLoop t (Tf.wipe (slotsT t) env) st (lcB (cl := cl) (call := call) cs e) (ws.drop (i + 1)) h5 with
       | ex c v => rw [el] at hl; cases hl
       | no => rw [el] at hl; cases hl
       | ok zs h6 =>
        rw [el] at hl
        injection hl with hl1 hl2
        subst hl2
        have hlen := vrs_len rv4
        refine ⟨acc, hD4, ?_, ρ4, h5, acc ++ [yv], done ++ [w], zs, ((exA.trans ex3).trans ex4).updN hd, hr4.updZ (.inr rfl) hD4 noT_lst, upd_same, ?_, el, ?_⟩
        ·have h5 : xs.length = done.length + ys.length := by rw [<- hx, List.length_append]
         have h6 : ys.length = 1 + zs.length := by rw [<- hl1, List.length_append]; rfl
         have := sz_line hz
         omega
        ·exact VRs.upd hD4 noT_lst (.inr (.inr rfl)) (vrs_app rv4 (by unfold VRs; exact ⟨yv, [], rfl, rr_w ry, by unfold VRs; rfl⟩))
        ·rw [<- hx, <- hl1, List.append_assoc]
 ·have ei : i = ws.length := by omega
  subst ei
  rw [List.drop_eq_nil_of_le (Nat.le_refl _)] at hl
  unfold lcLoop at hl
  split at hl
  case isFalse => cases hl
  rename_i hs
  injection hl with hl1 hl2
  subst hl1 hl2
  rw [List.append_nil] at hx
  subst hx
  exact .inl ⟨S.stop (Zp Z0 D) ρ' h' H (ex.z kz) hr' hs, q ρ' H acc ex hr' hD rv⟩
theorem lc_of {t : T} {k : IK} {its cs : List E} {e : E} {vs : List Nat} {C : Ct} (k1 : ∀ i ∈ vs, i ∈ slotsT t) (k2 : ∀ i ∈ slotsT t, i ∈ vs) {σ : Sg} {H : Hp} {Q : VK} (q : tEvF C (ev cl call (.lc t k its cs e)) σ H Q) :
  tLc (iSr C t k (evs cl call its)) (gT C t) (tTs C (tests cl call cs)) (tEv C (ev cl call e)) vs σ H Q := by
 obtain ⟨Z0, ρ, h, env, hr, er, q⟩ := q
 refine ⟨Z0, ρ, h, env, hr, er, ?_⟩
 unfold ev at q
 cases e1 : evs cl call its env h with
 | ex c v => rw [e1] at q; exact q.elim
 | no => rw [e1] at q; exact q.elim
 | ok rs h1 =>
  rw [e1] at q
  dsimp only at q ⊢
  cases e2 : walk k rs h1 with
  | none => rw [e2] at q; exact q.elim
  | some ww =>
   obtain ⟨ws, st⟩ := ww
   rw [e2] at q
   have q : EF C Z0 ρ h H Q (match lcLoop t (Tf.wipe (slotsT t) env) st (lcB (cl := cl) (call := call) cs e) ws h1 with
    | .ok xs h4 => if xs.length <= sizeMax then .ok (.w (.lst xs)) h4 else .no
    | _ => .no) := q
   cases e3 : lcLoop t (Tf.wipe (slotsT t) env) st (lcB (cl := cl) (call := call) cs e) ws h1 with
   | ex c v => rw [e3] at q; exact q.elim
   | no => rw [e3] at q; exact q.elim
   | ok xs h4 =>
    rw [e3] at q
    dsimp only at q
    split at q
    case isFalse => exact q.elim
    rename_i hz
    intro ρ1 H1 J ex hr1 S D hD
    have n : ¬ Z0 D := fun z => by obtain ⟨o, q⟩ := hr1.zd D z; rw [hD] at q; cases q
    exact lc_turns S hr1 (er.ex ex) hD k1 k2 e3 hz fun ρ' H' acc ex2 hr2 hD2 rv => q ρ' H' D acc (ex.trans ex2) (ex.back hr1 D hD) n hr2 hD2 rv
theorem lc_shape {t : T} {k : IK} {its cs : List E} {e : E} : ∀ env h r h', ev cl call (.lc t k its cs e) env h = .ok r h' -> (∃ ws, r = .w (.lst ws)) ∨ ∃ ks us, r = .w (.dct ks us) := by
 intro env h r h' q
 unfold ev at q
 split at q
 ·split at q
  ·split at q <;> grind
  ·cases q
 ·cases q
variable {elt tg iter : Expr} {ifs : List Expr} {scope : Scope} {own : List (Str × Nat)} {pos : Pos} {t : T} {k : IK} {its cs : List E} {e : E}
theorem sf_lc (hc : X.calm = true) (hN : X.N.Nodup) (hi : PI X tg iter (iSr (ct N X) t k (evs cl call its))) (ok : BlkOk X.N X.env.scope scope own) (k1 : ∀ i ∈ own.map (·.2), i ∈ slotsT t) (k2 : ∀ i ∈ slotsT t, i ∈ own.map (·.2))
  (hg : ∀ (s : Shared) (H : Hp) (C : Addr) (cl : List (Str × Addr)) (fp : List Addr), PG (X.blk s H scope (compEnvC scope cl C X.env) fp) tg (gT (ct N X) t))
  (ht : ∀ (s : Shared) (H : Hp) (C : Addr) (cl' : List (Str × Addr)) (fp : List Addr), PTs (X.blk s H scope (compEnvC scope cl' C X.env) fp) ifs (tTs (ct N X) (tests cl call cs)))
  (he : ∀ (s : Shared) (H : Hp) (C : Addr) (cl' : List (Str × Addr)) (fp : List Addr), PE (X.blk s H scope (compEnvC scope cl' C X.env) fp) elt (tEv (ct N X) (ev cl call e))) (hs : ∀ x, foldedSetIterable iter X.env x = pure x) :
  PE X (.ListComp elt [⟨tg, iter, ifs, 0⟩] scope pos) (tEvF (ct N X) (ev cl call (.lc t k its cs e))) :=
 PE.imp (pe_lc hc hN hi ok hg ht he hs) fun σ H Q q => lc_of k1 k2 q
end
end Tf
namespace Tf
open PySem L2 PyProof.Rows
theorem rrs_flat {C : Ct} {H : Hp} {Z : Addr -> Prop} {ρ ρ' : List Addr} {rs : List R} {ws : List W} {vs : List V} (e : allW rs = some ws) (r : RRs C H Z ρ rs vs) : RRs C H Z ρ' rs vs := by
 rw [allW_some e] at r ⊢
 exact rrs_w (vrs_of_rrs r)
theorem OR.flat {C : Ct} {H : Hp} {Z : Addr -> Prop} {ρ ρ' : List Addr} {a : Addr} {o : O} (f : flatO o = true) (q : OR C H Z ρ a o) : OR C H Z ρ' a o := by
 cases o with
 | lst rs =>
  obtain ⟨vs, e1, r⟩ := q
  obtain ⟨ws, e⟩ := Option.isSome_iff_exists.mp (show (allW rs).isSome = true from f)
  exact ⟨vs, e1, rrs_flat e r⟩
 | dct ks us =>
  obtain ⟨kv, vv, e1, r1, r2⟩ := q
  obtain ⟨ws, e⟩ := Option.isSome_iff_exists.mp (show (allW us).isSome = true from f)
  exact ⟨kv, vv, e1, r1, rrs_flat e r2⟩
 | ins c ns us =>
  obtain ⟨dx, fs, e1, e2, r⟩ := q
  obtain ⟨ws, e⟩ := Option.isSome_iff_exists.mp (show (allW us).isSome = true from f)
  exact ⟨dx, fs, e1, e2, rrs_flat e r⟩
 | tup rs =>
  obtain ⟨vs, e1, r⟩ := q
  obtain ⟨ws, e⟩ := Option.isSome_iff_exists.mp (show (allW rs).isSome = true from f)
  exact ⟨vs, e1, rrs_flat e r⟩
 | exc c r => cases f
 | dead => trivial
theorem flat_live {o : O} (f : flatO o = true) : o ≠ .dead := fun z => by subst z; cases f
def adr (ρ : List Addr) (l : Nat) : Addr := (ρ[l]?).getD 0
structure Handed (h : Hh) (ls : List Nat) (os : Hh) : Prop where
 len : ls.length = os.length
 nd : ls.Nodup
 at_ : ∀ (i l : Nat), ls[i]? = some l -> ∃ o : O, os[i]? = some o ∧ h[l]? = some o ∧ flatO o = true
theorem hand_ok {h : Hh} : ∀ {rs : List R} {n : Nat} {ls : List Nat} {as : List R} {os : Hh}, hand rs h n = some (ls, as, os) -> Handed h ls os
 | [], n, ls, as, os, e => by cases e; exact ⟨rfl, by simp, fun i l z => by simp at z⟩
 | .w w :: rs, n, ls, as, os, e => by
  unfold hand at e
  cases e1 : hand rs h n with
  | none => simp_all
  | some x =>
   rw [e1] at e
   cases e
   exact hand_ok e1
 | .loc l :: rs, n, ls, as, os, e => by
  unfold hand at e
  cases e0 : h[l]? with
  | none => simp_all
  | some o =>
   rw [e0] at e
   dsimp only at e
   split at e
   ·cases e1 : hand rs h (n + 1) with
    | none => simp_all
    | some x =>
     obtain ⟨l1, a1, o1⟩ := x
     rw [e1] at e
     dsimp only at e
     split at e
     ·cases e
     ·rename_i hc
      cases e
      have ih := hand_ok e1
      refine ⟨by simp [ih.len], List.nodup_cons.mpr ⟨fun z => hc (List.contains_iff_mem.mpr z), ih.nd⟩, fun i m z => ?_⟩
      cases i with
      | zero => simp_all
      | succ i =>
       obtain ⟨u, x1, x2⟩ := ih.at_ i m (by simpa using z)
       grind
   ·cases e
theorem hand_args {C : Ct} {H : Hp} {Z Z' : Addr -> Prop} {ρ : List Addr} {h : Hh} (hl : ρ.length = h.length) (k : ∀ a, Z' a -> Z a) : ∀ {rs : List R} {n : Nat} {ls : List Nat} {as : List R} {os : Hh} {vs : List V} {pre : List Addr}, hand rs h n = some (ls, as, os) -> pre.length = n -> RRs C H Z ρ rs vs ->
  RRs C H Z' (pre ++ ls.map (adr ρ)) as vs
 | [], n, ls, as, os, vs, pre, e, hp, rr => by cases e; exact rr
 | .w w :: rs, n, ls, as, os, vs, pre, e, hp, rr => by
  unfold hand at e
  cases e1 : hand rs h n with
  | none => simp_all
  | some x =>
   obtain ⟨l1, a1, o1⟩ := x
   rw [e1] at e
   cases e
   obtain ⟨v, t, rfl, r1, r2⟩ := rr
   exact ⟨v, t, rfl, VR.mono k r1, hand_args hl k e1 hp r2⟩
 | .loc l :: rs, n, ls, as, os, vs, pre, e, hp, rr => by
  unfold hand at e
  cases e0 : h[l]? with
  | none => simp_all
  | some o =>
   rw [e0] at e
   dsimp only at e
   split at e
   ·cases e1 : hand rs h (n + 1) with
    | none => simp_all
    | some x =>
     obtain ⟨l1, a1, o1⟩ := x
     rw [e1] at e
     dsimp only at e
     split at e
     ·cases e
     ·cases e
      obtain ⟨v, t, rfl, r1, r2⟩ := rr
      obtain ⟨a, ea, rfl⟩ := r1
      have had : adr ρ l = a := by unfold adr; rw [ea]; rfl
      have := hand_args hl k (pre := pre ++ [a]) e1 (by simp [hp]) r2
      refine ⟨_, t, rfl, ⟨a, ?_, rfl⟩, ?_⟩ <;> simp_all
   ·cases e
abbrev Zc (ρ : List Addr) (h : Hh) (Z0 : Addr -> Prop) (ls : List Nat) : Addr -> Prop := fun a => Av ρ h Z0 a ∧ a ∉ ls.map (adr ρ)
section
variable {C : Ct} {H H' : Hp} {Z0 Zx : Addr -> Prop} {ρ ρ' : List Addr} {h h' os : Hh} {ls : List Nat}
theorem Handed.adr (hd : Handed h ls os) (hr : HR C Z0 ρ h H) {i l : Nat} (e : ls[i]? = some l) : ρ[l]? = some (adr ρ l) := by
 obtain ⟨o, _, e2, _⟩ := hd.at_ i l e
 have : l < ρ.length := by rw [hr.len]; exact (List.getElem?_eq_some_iff.mp e2).1
 unfold Tf.adr
 simp_all
theorem nodup_get {α : Type} {l : List α} (nd : l.Nodup) {i j : Nat} {a : α} (h1 : l[i]? = some a) (h2 : l[j]? = some a) : i = j := by
 grind [List.getElem_inj]
theorem nodup_map {α β : Type} {f : α -> β} : ∀ {l : List α}, l.Nodup -> (∀ a ∈ l, ∀ b ∈ l, f a = f b -> a = b) -> (l.map f).Nodup
 | [], _, _ => by simp
 | x :: l, nd, k => by
  obtain ⟨n1, n2⟩ := List.nodup_cons.mp nd
  refine List.nodup_cons.mpr ⟨fun z => ?_, nodup_map n2 fun a ha b hb => k a (List.mem_cons_of_mem _ ha) b (List.mem_cons_of_mem _ hb)⟩
  obtain ⟨y, hy, e⟩ := List.mem_map.mp z
  have := k y (List.mem_cons_of_mem _ hy) x (by simp) e
  simp_all
theorem Handed.at' (hd : Handed h ls os) {i : Nat} {a : Addr} (e : (ls.map (Tf.adr ρ))[i]? = some a) : ∃ l, ls[i]? = some l ∧ a = Tf.adr ρ l := by
 cases e1 : ls[i]? <;> simp_all
theorem Handed.mem (hd : Handed h ls os) {a : Addr} (m : a ∈ ls.map (Tf.adr ρ)) : ∃ (i l : Nat), ls[i]? = some l ∧ a = Tf.adr ρ l := by
 obtain ⟨i, hi⟩ := List.mem_iff_getElem?.mp m
 obtain ⟨l, e1, e2⟩ := hd.at' hi
 exact ⟨i, l, e1, e2⟩
theorem Handed.live (hd : Handed h ls os) (hr : HR C Z0 ρ h H) {a : Addr} (z : Live (ls.map (Tf.adr ρ)) os a) : Live ρ h a := by
 obtain ⟨i, o, e1, e2, d⟩ := z
 obtain ⟨l, e3, rfl⟩ := hd.at' e1
 obtain ⟨o', e4, e5, _⟩ := hd.at_ i l e3
 rw [e2] at e4
 cases e4
 exact ⟨l, o, hd.adr hr e3, e5, d⟩
theorem Handed.start (hd : Handed h ls os) (hr : HR C Z0 ρ h H) : HR C (Zc ρ h Z0 ls) (ls.map (Tf.adr ρ)) os H where
 len := by simp [hd.len]
 nd := nodup_map hd.nd fun x hx y hy e => by
  obtain ⟨i, hi⟩ := List.mem_iff_getElem?.mp hx
  obtain ⟨j, hj⟩ := List.mem_iff_getElem?.mp hy
  have a1 := hd.adr hr hi
  have a2 := hd.adr hr hj
  rw [<- e] at a2
  exact nodup_get hr.nd a1 a2
 ob := fun i o a e1 e2 d => by
  obtain ⟨l, e3, rfl⟩ := hd.at' e2
  obtain ⟨o', e4, e5, f⟩ := hd.at_ i l e3
  rw [e1] at e4
  cases e4
  refine OR.mono (fun b z => ?_) (OR.flat f (hr.ob l o _ e5 (hd.adr hr e3) d))
  exact z.elim (fun z => .inl (hd.live hr z)) fun z => z.1
 zd := fun a z => hr.av z.1
 tr := fun a z => by
  obtain ⟨i, l, e1, rfl⟩ := hd.mem z
  exact hr.tr _ (List.mem_of_getElem? (hd.adr hr e1))
 dj := fun a z q => q.2 z
theorem putBack_len : ∀ {ls : List Nat} {os : Hh} {h : Hh}, (putBack ls os h).length = h.length
 | [], os, h => by cases os <;> rfl
 | l :: ls, [], h => rfl
 | l :: ls, o :: os, h => by unfold putBack; rw [putBack_len]; simp
theorem putBack_out : ∀ {ls : List Nat} {os : Hh} {h : Hh} {n : Nat}, n ∉ ls -> (putBack ls os h)[n]? = h[n]?
 | [], os, h, n, _ => by cases os <;> rfl
 | l :: ls, [], h, n, _ => rfl
 | l :: ls, o :: os, h, n, hn => by
  unfold putBack
  rw [putBack_out (fun z => hn (List.mem_cons_of_mem _ z)), List.getElem?_set_ne (fun z => hn (by simp [z]))]
theorem putBack_at : ∀ {ls : List Nat} {os : Hh} {h : Hh} {i l : Nat}, ls.Nodup -> os.length = ls.length -> (∀ l ∈ ls, l < h.length) -> ls[i]? = some l -> (putBack ls os h)[l]? = os[i]?
 | [], os, h, i, l, _, _, _, e => by simp_all
 | m :: ls, [], h, i, l, _, hl, _, _ => by simp_all
 | m :: ls, o :: os, h, i, l, nd, hl, lt, e => by
  unfold putBack
  cases i with
  | zero =>
   simp at e; subst e
   rw [putBack_out (List.nodup_cons.mp nd).1, List.getElem?_set_self (lt m (by simp))]
   rfl
  | succ i =>
   rw [putBack_at (List.nodup_cons.mp nd).2 (by simpa using hl) (fun z hz => by simpa using lt z (List.mem_cons_of_mem _ hz)) (by simpa using e)]
   simp
structure Back (C : Ct) (Z0 Zx : Addr -> Prop) (ρ : List Addr) (h : Hh) (H : Hp) (ls : List Nat) (ρ' : List Addr) (h' : Hh) (H' : Hp) : Prop where
 ex : Ex ρ h H ρ (putBack ls (h'.take ls.length) h) H'
 hr : HR C Zx ρ (putBack ls (h'.take ls.length) h) H'
 av : ∀ a, Av ρ (putBack ls (h'.take ls.length) h) Z0 a -> (∃ i, i < ls.length ∧ ρ'[i]? = some a ∧ Live ρ' h' a) ∨ Zc ρ h Z0 ls a
theorem Handed.back (hd : Handed h ls os) (hr : HR C Z0 ρ h H) (ex : Ex (ls.map (Tf.adr ρ)) os H ρ' h' H') (hr' : HR C (Zc ρ h Z0 ls) ρ' h' H') (fl : (h'.take ls.length).all flatO = true)
  (zx : ∀ a, Zx a -> Z0 a ∨ (Live ρ' h' a ∧ ∃ i, ls.length <= i ∧ ρ'[i]? = some a)) : Back C Z0 Zx ρ h H ls ρ' h' H' := by
 obtain ⟨t, ht⟩ := ex.pre
 have hk : ls.length <= h'.length := by rw [<- hr'.len, ht]; simp
 have hpre : ∀ i l, ls[i]? = some l -> ρ'[i]? = some (Tf.adr ρ l) := fun i l e => by
  have : i < ls.length := (List.getElem?_eq_some_iff.mp e).1
  rw [ht, List.getElem?_append_left (by simpa using this), List.getElem?_map, e]; rfl
 have hlt : ∀ l ∈ ls, l < h.length := fun l hl => by
  obtain ⟨i, hi⟩ := List.mem_iff_getElem?.mp hl
  obtain ⟨o, _, e2, _⟩ := hd.at_ i l hi
  exact (List.getElem?_eq_some_iff.mp e2).1
 have hat : ∀ i l, ls[i]? = some l -> ∃ o, (putBack ls (h'.take ls.length) h)[l]? = some o ∧ h'[i]? = some o ∧ flatO o = true := fun i l e => by
  have hi : i < ls.length := (List.getElem?_eq_some_iff.mp e).1
  have e1 : (h'.take ls.length)[i]? = h'[i]? := by simp_all
  have e2 := putBack_at (os := h'.take ls.length) (h := h) hd.nd (by rw [List.length_take]; omega) hlt e
  rw [e1] at e2
  have e3 : h'[i]? = some (h'[i]'(by omega)) := by simp_all
  refine ⟨_, e2.trans e3, e3, ?_⟩
  rw [e3] at e1
  exact List.all_eq_true.mp fl _ (List.mem_of_getElem? e1)
 have liveC : ∀ {a}, Live ρ (putBack ls (h'.take ls.length) h) a -> (∃ i, i < ls.length ∧ ρ'[i]? = some a ∧ Live ρ' h' a) ∨ (Live ρ h a ∧ a ∉ ls.map (Tf.adr ρ)) := fun {a} z => by
  obtain ⟨n, o, e1, e2, d⟩ := z
  by_cases hn : n ∈ ls
  ·obtain ⟨i, hi⟩ := List.mem_iff_getElem?.mp hn
   obtain ⟨o', x1, x2, _⟩ := hat i n hi
   rw [e2] at x1
   cases x1
   have y1 := hpre i n hi
   have y2 := hd.adr hr hi
   rw [e1] at y2
   rw [<- Option.some.inj y2] at y1
   exact .inl ⟨i, (List.getElem?_eq_some_iff.mp hi).1, y1, i, o, y1, x2, d⟩
  ·rw [putBack_out hn] at e2
   refine .inr ⟨⟨n, o, e1, e2, d⟩, fun m => ?_⟩
   obtain ⟨i, l, e3, rfl⟩ := hd.mem m
   have := nodup_get hr.nd e1 (hd.adr hr e3)
   subst this
   exact hn (List.mem_of_getElem? e3)
 have av : ∀ a, Av ρ (putBack ls (h'.take ls.length) h) Z0 a -> (∃ i, i < ls.length ∧ ρ'[i]? = some a ∧ Live ρ' h' a) ∨ Zc ρ h Z0 ls a := fun a z => by
  rcases z with z | z
  ·exact (liveC z).imp id fun z => ⟨.inl z.1, z.2⟩
  ·refine .inr ⟨.inr z, fun m => ?_⟩
   obtain ⟨i, l, e3, rfl⟩ := hd.mem m
   exact hr.dj _ (List.mem_of_getElem? (hd.adr hr e3)) z
 have avx : ∀ a, Av ρ (putBack ls (h'.take ls.length) h) Zx a -> Av ρ' h' (Zc ρ h Z0 ls) a := fun a z => by
  rcases z with z | z
  ·exact (av a (.inl z)).elim (fun ⟨_, _, _, q⟩ => .inl q) .inr
  ·rcases zx a z with z | ⟨z, _⟩
   ·exact (av a (.inr z)).elim (fun ⟨_, _, _, q⟩ => .inl q) .inr
   ·exact .inl z
 have fr : ∀ a o, H a = some o -> ¬ Live ρ h a -> H' a = some o ∧ ¬ Av ρ' h' (fun _ => False) a := fun a o e n => by
  obtain ⟨e1, n1⟩ := ex.fr a o e fun z => n (hd.live hr z)
  grind
 have exr : Ex ρ h H ρ (putBack ls (h'.take ls.length) h) H' := ⟨⟨[], by simp⟩, fun a o e n => ⟨(fr a o e n).1, fun z => (liveC z).elim (fun ⟨_, _, _, q⟩ => (fr a o e n).2 (.inl q)) fun q => n q.1⟩, ex.tp, ex.xp⟩
 have dead : ∀ a, a ∈ ρ -> (Live ρ' h' a ∧ ∃ i, ls.length <= i ∧ ρ'[i]? = some a) -> False := fun a m ⟨z, i, hi, e⟩ => by
  by_cases hm : a ∈ ls.map (Tf.adr ρ)
  ·obtain ⟨j, l, e3, rfl⟩ := hd.mem hm
   have := nodup_get hr'.nd e (hpre j l e3)
   grind
  ·by_cases hl : Live ρ h a
   ·exact hr'.dj a (List.mem_of_getElem? e) ⟨.inl hl, hm⟩
   ·obtain ⟨o, q⟩ := hr.tr a m
    exact (fr a o q hl).2 (.inl z)
 refine ⟨exr, ⟨by rw [putBack_len]; exact hr.len, hr.nd, fun n o a e2 e1 d => ?_, fun a z => ?_, fun a z => ?_, fun a z q => ?_⟩, av⟩
 ·by_cases hn : n ∈ ls
  ·obtain ⟨i, hi⟩ := List.mem_iff_getElem?.mp hn
   obtain ⟨o', x1, x2, f⟩ := hat i n hi
   rw [e2] at x1
   cases x1
   have y1 := hpre i n hi
   have y2 := hd.adr hr hi
   rw [e1] at y2
   rw [<- Option.some.inj y2] at y1
   exact OR.mono avx (OR.flat f (hr'.ob i o a x2 y1 d))
  ·rw [putBack_out hn] at e2
   have hna : a ∉ ls.map (Tf.adr ρ) := fun m => by
    obtain ⟨i, l, e3, rfl⟩ := hd.mem m
    have := nodup_get hr.nd e1 (hd.adr hr e3)
    subst this
    exact hn (List.mem_of_getElem? e3)
   have keep : ∀ u, H a = some u -> H' a = some u := fun u e => (ex.fr a u e fun ⟨i, v, z1, _, _⟩ => hna (List.mem_of_getElem? z1)).1
   have st : ∀ b v, H b = some v -> ¬ Av ρ h Z0 b -> H' b = some v ∧ ¬ Av ρ (putBack ls (h'.take ls.length) h) Zx b := fun b v e nn => by
    obtain ⟨e1, n1⟩ := fr b v e fun z => nn (.inl z)
    refine ⟨e1, fun z => ?_⟩
    rcases z with z | z
    ·exact (exr.fr b v e fun z => nn (.inl z)).2 z
    ·rcases zx b z with z | ⟨z, _⟩ <;> grind
   have kt : ∀ b xs, SqN H b xs -> SqN H' b xs := fun b xs s => ex.sqT s
   have rrs : ∀ {rs : List R} {vs : List V}, RRs C H (Av ρ h Z0) ρ rs vs -> RRs C H' (Av ρ (putBack ls (h'.take ls.length) h) Zx) ρ rs vs := by
    intro rs
    induction rs with
    | nil => intro vs r; exact r
    | cons r rs ih =>
     rintro vs ⟨v, t, e, q, qs⟩
     refine ⟨v, t, e, ?_, ih qs⟩
     cases r with
     | w w => exact VR.stay st kt w v q
     | loc n => exact q
   have q := hr.ob n o a e2 e1 d
   cases o with
   | lst rs => obtain ⟨vs, e1, r⟩ := q; exact ⟨vs, keep _ e1, rrs r⟩
   | dct ks us => obtain ⟨kv, vv, ⟨ob, e1⟩, r1, r2⟩ := q; exact ⟨kv, vv, ⟨ob, keep _ e1⟩, VRs.stay st kt _ _ r1, rrs r2⟩
   | ins c ns us => obtain ⟨dx, fs, e1, e2, r⟩ := q; exact ⟨dx, fs, keep _ e1, e2, rrs r⟩
   | tup rs => obtain ⟨vs, ⟨ob, e1, e2⟩, r⟩ := q; exact ⟨vs, ⟨ob, keep _ e1, e2⟩, rrs r⟩
   | exc c r0 =>
    obtain ⟨y, e, r⟩ := q
    obtain ⟨v, t, e2, r2, _⟩ := rrs (show RRs C H (Av ρ h Z0) ρ [r0] [y] from ⟨y, [], rfl, r, rfl⟩)
    cases e2
    exact ⟨y, e.keep ex.xp, r2⟩
   | dead => trivial
 ·rcases zx a z with z | ⟨z, _⟩
  ·exact (av a (.inr z)).elim (fun ⟨_, _, _, q⟩ => hr'.av (.inl q)) (hr'.zd a)
  ·exact hr'.av (.inl z)
 ·obtain ⟨o, q⟩ := hr.tr a z
  by_cases hm : a ∈ ls.map (Tf.adr ρ)
  ·refine hr'.tr a ?_
   grind
  ·exact ⟨o, (ex.fr a o q fun ⟨i, v, z1, _, _⟩ => hm (List.mem_of_getElem? z1)).1⟩
 ·rcases zx a q with q | q
  ·exact hr.dj a z q
  ·exact dead a z q
mutual
theorem fz_ok {k : Nat} {Zw Zc : Addr -> Prop} (hr' : HR C Zc ρ' h' H') (kz : ∀ a, Zw a -> (∃ i, i < k ∧ ρ'[i]? = some a ∧ Live ρ' h' a) ∨ Zc a) : ∀ (fuel : Nat) (r : R) (v : V) (w : W), fz h' k fuel r = some w -> RR C H' (Av ρ' h' Zc) ρ' r v -> VR C H' Zw w v
 | 0, .w w', v, w, e, rr => by unfold fz at e; cases e; exact VR.mono (fun a z => (kz a z).elim (fun ⟨_, _, _, q⟩ => .inl q) .inr) rr
 | n + 1, .w w', v, w, e, rr => by unfold fz at e; cases e; exact VR.mono (fun a z => (kz a z).elim (fun ⟨_, _, _, q⟩ => .inl q) .inr) rr
 | 0, .loc l, v, w, e, rr => by unfold fz at e; cases e
 | n + 1, .loc l, v, w, e, rr => by
  obtain ⟨a, ea, rfl⟩ := rr
  unfold fz at e
  split at e
  ·cases e
  ·rename_i hk
   have nz : ¬ Zw a := fun z => by
    rcases kz a z with ⟨i, hi, e2, _⟩ | z
    ·have := nodup_get hr'.nd ea e2
     omega
    ·exact hr'.dj a (List.mem_of_getElem? ea) z
   split at e
   ·rename_i rs ho
    obtain ⟨vs, e1, r⟩ := hr'.ob l _ a ho ea (by intro z; cases z)
    cases e2 : fzs (fz h' k n) rs with
    | none => rw [e2] at e; cases e
    | some ws =>
     rw [e2] at e
     cases e
     unfold VR
     exact ⟨a, vs, rfl, e1, nz, fzs_ok hr' kz n rs vs ws e2 r⟩
   ·rename_i ks us ho
    obtain ⟨kv, vv, e1, r1, r⟩ := hr'.ob l _ a ho ea (by intro z; cases z)
    cases e2 : fzs (fz h' k n) us with
    | none => rw [e2] at e; cases e
    | some ws =>
     rw [e2] at e
     cases e
     unfold VR
     exact ⟨a, kv, vv, rfl, e1, nz, VRs.mono (fun a z => (kz a z).elim (fun ⟨_, _, _, q⟩ => .inl q) .inr) r1, fzs_ok hr' kz n us vv ws e2 r⟩
   ·rename_i c ns us ho
    obtain ⟨dx, fs, e1, e3, r⟩ := hr'.ob l _ a ho ea (by intro z; cases z)
    cases e2 : fzs (fz h' k n) us with
    | none => rw [e2] at e; cases e
    | some ws =>
     rw [e2] at e
     cases e
     unfold VR
     exact ⟨a, dx, fs, rfl, e1, nz, e3, fzs_ok hr' kz n us _ ws e2 r⟩
   ·rename_i us ho
    obtain ⟨vs, e1, r⟩ := hr'.ob l _ a ho ea (by intro z; cases z)
    cases e2 : fzs (fz h' k n) us with
    | none => rw [e2] at e; cases e
    | some ws =>
     rw [e2] at e
     cases e
     unfold VR
     exact ⟨a, vs, rfl, e1, fzs_ok hr' kz n us vs ws e2 r⟩
   ·cases e
theorem fzs_ok {k : Nat} {Zw Zc : Addr -> Prop} (hr' : HR C Zc ρ' h' H') (kz : ∀ a, Zw a -> (∃ i, i < k ∧ ρ'[i]? = some a ∧ Live ρ' h' a) ∨ Zc a) : ∀ (fuel : Nat) (rs : List R) (vs : List V) (ws : List W), fzs (fz h' k fuel) rs = some ws -> RRs C H' (Av ρ' h' Zc) ρ' rs vs -> VRs C H' Zw ws vs
 | n, [], vs, ws, e, rr => by unfold fzs at e; cases e; unfold VRs; exact rr
 | n, r :: rs, vs, ws, e, rr => by
  obtain ⟨v, t, rfl, r1, r2⟩ := rr
  unfold fzs at e
  split at e
  ·rename_i w us e1 e2
   cases e
   unfold VRs
   exact ⟨v, t, rfl, fz_ok hr' kz n r v w e1 r1, fzs_ok hr' kz n rs t us e2 r2⟩
  ·cases e
end
end
end Tf
namespace Tf
open PySem L2 PyProof.Rows
structure RoomG (k : Nat) (A : Around) : Prop where
 room : Room k A
 gd : A.guards = some []
section
variable {j k : Nat} {A : Around}
theorem RoomG.mono (r : RoomG k A) (h : j <= k) : RoomG j A := ⟨r.room.mono h, r.gd⟩
theorem RoomG.deeper (r : RoomG (k + 1) A) (env : PySem.Env) : RoomG k (A.deeper env) := ⟨r.room.deeper env, r.gd⟩
theorem RoomG.in1 (r : RoomG (k + 1) A) : RoomG k A.in1 := ⟨r.room.in1, r.gd⟩
theorem RoomG.make (r : RoomG (k + 1) A) (C : Addr) (us : List Value) (kw : List (Str × Value)) : RoomG k (A.under (.builtin "type.__call__" ⟨.ref C :: us, kw⟩)) := ⟨r.room.make C us kw, by
 have g : (Code.builtin "type.__call__" ⟨.ref C :: us, kw⟩).guards = [] := by
  first | rfl | simp [Code.guards, Code.isGuard, guardIds]
 show pushGuards (Code.builtin "type.__call__" ⟨.ref C :: us, kw⟩).guards A.guards = some []
 rw [g]; exact r.gd⟩
theorem RoomG.units (r : RoomG k A) : A.units + 64 < cLine := r.room.units
end
structure FnG (P : Program) (w : World) (K : PySem.W.Frag) (mg : Str -> Option Value) (base : Heap) (CX : CXT) (k : Nat) (f : Addr) (fd : FuncData) (ps : List Str) (sp : Sp) : Prop where
 len : ∀ xs G Q E, sp xs G Q E -> xs.length = ps.length
 run : ∀ (A : Around) (fr : List PySem.Env) (s : Shared) (G : Hp) (as : Args) (us : List Value) (xs : List V) (Q : VK) (E : XK), RoomG k A -> Env0 P w K mg base A fr s G -> BindsTo s fd as (ps.zip us) -> Vals xs us -> sp xs G Q E ->
  codeAny (model P w) A (.call (.ref f) as) (CR CX fr P w G s Q E) s
section
variable {P : Program} {w : World} {K : PySem.W.Frag} {mg : Str -> Option Value} {base : Heap} {CX : CXT} {k : Nat} {f : Addr} {fd : FuncData} {ps : List Str} {sp sp' : Sp}
theorem FnG.imp (F : FnG P w K mg base CX k f fd ps sp) (h : ∀ xs G Q E, sp' xs G Q E -> sp xs G Q E) : FnG P w K mg base CX k f fd ps sp' :=
 ⟨fun _ _ _ _ q => F.len _ _ _ _ (h _ _ _ _ q), fun A fr s G as us xs Q E r e b v q => F.run A fr s G as us xs Q E r e b v (h _ _ _ _ q)⟩
end
section
variable {X : Cx} {CX : CXT} {k : Nat} {f C g : Addr} {fd : FuncData} {ps : List Str} {sp : Sp} {dvs : List V} {ds : List Value} {E : XK} {x m : Str} {p pos apos : Pos} {e o : Expr} {es : List Expr} {ta : TE} {t : TA}
theorem go_fn {pins : List (Addr × Obj)} {σ : L2.St} {G : Hp} {s : Shared} {Q : VK} {us : List Value} {xs : List V} (F : FnG X.prog X.w X.K X.mg X.base CX k f fd ps sp) (hr : RoomG k X.A) (hb : Binds X.K fd ps ds) (hd : Vals dvs ds) (hx : Passes CX X E)
  (I : Inv X pins σ G s) (r : Vals xs us) (q : sp (xs ++ dvs) G Q E) : wpAny (model X.prog X.w) X.A (call (.ref f) us) (EP X pins σ Q) X.xe s := by
 have rr : Vals (xs ++ dvs) (us ++ ds) := r.append hd
 have ln : (us ++ ds).length = ps.length := rr.length.symm.trans (F.len _ _ _ _ q)
 refine wpAny_call (codeAny_mono (F.run X.A X.stack s G ⟨us, []⟩ (us ++ ds) (xs ++ dvs) Q E hr I.env0 (hb s us I.kIn ln) rr q) fun a s2 z => ?_)
 cases a with
 | error er => exact hx pins σ G s er s2 I z
 | ok fl => cases fl with
  | ret u => exact I.after z
  | _ => exact z.elim
theorem call_g (F : FnG X.prog X.w X.K X.mg X.base CX k f fd ps sp) (hr : RoomG k X.A) (hg : Gl X x) (hm : X.mg x = some (.ref f)) (hk : PySem.W.keepIn X.K (.ref f) = true) (hb : Binds X.K fd ps ds) (hd : Vals dvs ds) (hx : Passes CX X E)
  (ha : PA X (e :: es) t) (hdb : (x == ("__debug__" : Str)) = false) (he : starEach (e :: es) X.env = (false, eval e X.env) :: starEach es X.env) (hpl : (backTo pos (starEach es X.env)).any (·.1) = false) :
  PE X (.Call (.Name x p) (e :: es) [] pos) (tCall sp dvs E t) := ⟨fun pins s σ G Q I q => by
 refine wpAny_Call_Name_kw (ld_glob I hg hm ?_ hdb)
 exact PySem.W.callWith_K (h₀ := X.base) I.ok.mod.kin hk (thn (ha.run pos pins s σ G _ I q) fun us s2 ⟨xs, G2, J, r, z⟩ => ⟨J.kIn, go_fn F hr hb hd hx J r z⟩) he hpl⟩
theorem meth_g {pl : Sem Bool} (he : PE X o ta) (c : L2.Cls X.K C) (hm : Meth X.K C m f) (F : FnG X.prog X.w X.K X.mg X.base CX k f fd ps sp) (hr : RoomG k X.A) (hb : Binds X.K fd ps ds) (hd : Vals dvs ds) (hx : Passes CX X E) (ha : PA X (e :: es) t)
  (hst : starEach (e :: es) X.env = (false, eval e X.env) :: starEach es X.env) (hpl : (backTo pos (starEach es X.env)).any (·.1) = false)
  (ht : eval (.Call (.Attribute o m apos) (e :: es) [] pos) X.env = (do
   let ov <- eval o X.env
   standAt apos.atName
   let (f, first) <- holding [ov] (getMethod ov m pl)
   callWith pos f first (backTo pos (starEach (e :: es) X.env)) (backToKw pos (keywordEach [] X.env)))) :
  PE X (.Call (.Attribute o m apos) (e :: es) [] pos) (tMeth C m sp dvs E ta t) := ⟨fun pins s σ G Q I q => by
 refine PySem.W.methodCall_KW (pl := pl) (thn (he.run pins s σ G _ I q) fun u s2 ⟨y, G2, J, ry, b, dx, fs, ey, eb, nl, z⟩ => ?_) ht
 cases ey
 cases (show u = Value.ref b from ry)
 refine getmeth_ok J eb c hm nl ?_
 exact PySem.W.callWith_K (first := [.ref b]) (h₀ := X.base) I.ok.mod.kin hm.kp (thn (ha.run pos pins s2 σ G2 _ J z) fun us s3 ⟨xs, G3, L, r, z2⟩ => ⟨L.kIn, go_fn (us := .ref b :: us) (xs := .ref b :: xs) F hr hb hd hx L (.cons rfl r) z2⟩) hst hpl⟩
end
theorem fn_g {CX : CXT} {P : Program} {w : World} {K : PySem.W.Frag} {mg : Str -> Option Value} {base : Heap} {k : Nat} {f : Addr} {name qual : Str} {params : Arguments} {body : List Stmt} {scope : Scope} {dV kV doc pm cdv ct oc : Value} {an od : Option Addr}
  {osl : Array (Option Value)} {N ps : List Str} {sp : Sp} (lk : K.lookup f = some ⟨oc, od, .func (PySem.W.fnOf name qual params body scope dV kV doc pm an cdv ct), osl⟩) (hcd : PySem.W.codeIn K cdv qual = true) (S : FnScope N ps scope)
  (len : ∀ xs G Q E, sp xs G Q E -> xs.length = ps.length)
  (hbody : ∀ (A : Around) (fr : List PySem.Env) (s : Shared) (G : Hp) (xs : List V) (Q : VK) (E : XK), RoomG k (A.deeper (envOfC qual scope s.heap.objs.size f cdv)) -> sp xs G Q E ->
   ∃ t, PSs (cxOf CX P w K mg base N qual scope f cdv A fr s G E) body t ∧ t { nx := fun _ G' => Q .non G', rt := Q } (L2.start N xs) G) :
  FnG P w K mg base CX (k + 1) f (PySem.W.fnOf name qual params body scope dV kV doc pm an cdv ct) ps sp := ⟨len, fun A fr s G as us xs Q E hr e0 hb r q => by
 have ln := len _ _ _ _ q
 have X1 : K.In s.heap := e0.mod.kin.keeps fun b ob z => (e0.bs b ob z).1
 have nl : s.heap.NoLimit := e0.mod.nolimit.keeps fun b ob z => (e0.bs b ob z).1
 have kd : ∀ y ∈ ps.zip us, scope.names.lookup y.1 = some .local ∨ (scope.names.lookup y.1 = some .cell ∧ ((cellsFrom (s.heap.objs.size + 1) scope.names []).lookup y.1).isSome = true) := fun ⟨n, v⟩ hy => by
  rcases S.par n (List.of_mem_zip hy).1 with z | z
  ·simp_all
  ·exact .inr ⟨z, PySem.W.cellsFrom_some _ _ _ (.inl z)⟩
 refine codeAny_call_function hr.room.depth (X1 _ _ lk) rfl S.co S.gen rfl (PySem.W.codeRec_of X1 hcd) (hb _ _ _ _ ?_)
 refine wpAny_newFunctionEnv_cells S.kind kd fun env he s2 y => ?_
 cases he
 refine ⟨nl.keeps y.toInCall.keep, codeAny_func ?_⟩
 obtain ⟨t, ht, z⟩ := hbody A fr s G xs Q E (hr.deeper _) q
 refine wpAny_mono (ht.run [] s2 (L2.start N xs) G _ (inv_start S hr.room.hd e0 ln r y) z) (fun fl s3 hs => ?_) fun _ _ hs => hs
 cases fl with
 | ret u =>
  obtain ⟨v, _, G3, J, rv, z2⟩ := hs
  exact ⟨v, G3, J.os, J.bare, J.base, J.hok, rv, z2⟩
 | next =>
  obtain ⟨_, G3, J, z2⟩ := hs
  exact ⟨V.non, G3, J.os, J.bare, J.base, J.hok, rfl, z2⟩
 | brk => exact hs.choose_spec.choose_spec.2.elim
 | cont => exact hs.choose_spec.choose_spec.2.elim⟩
end Tf
namespace Tf
open PySem L2 PyProof.Rows
def spR (C : Ct) (cl : Cls) (call : Call) (fuel : Nat) (fd : Fd) : Sp := fun vs H Q _ => ∃ Z0 ρ h as, HR C Z0 ρ h H ∧ RRs C H (Av ρ h Z0) ρ as vs ∧ EQ C Z0 ρ h H Q (runFd cl call fuel fd as h)
theorem spR.len {C : Ct} {cl : Cls} {call : Call} {fuel : Nat} {fd : Fd} {vs : List V} {H : Hp} {Q : VK} {E : XK} (q : spR C cl call fuel fd vs H Q E) : vs.length = fd.np := by
 obtain ⟨Z0, ρ, h, as, hr, rr, q⟩ := q
 rw [rrs_len rr]
 unfold runFd at q
 split at q
 ·omega
 ·exact q.elim
section
variable {C : Ct} {cl : Cls} {call : Call} {fuel : Nat} {fd : Fd} {Z0 : Addr -> Prop} {ρ : List Addr} {h : Hh} {H : Hp} {rs : List R} {vs : List V} {Q : VK} {E : XK}
theorem pu_core (hr : HR C Z0 ρ h H) (rr : RRs C H (Av ρ h Z0) ρ rs vs) (q : EQ C Z0 ρ h H Q (runBy cl fuel fd call .pu rs h)) : spR C cl call fuel fd vs H Q E := by
 unfold runBy at q
 cases e : hand rs h 0 with
 | none => rw [e] at q; exact q.elim
 | some x =>
  obtain ⟨ls, as, os⟩ := x
  rw [e] at q
  dsimp only at q
  have hd := hand_ok e
  refine ⟨Zc ρ h Z0 ls, ls.map (adr ρ), os, as, hd.start hr, ?_, ?_⟩
  ·have := hand_args (pre := []) (Z' := Av (ls.map (adr ρ)) os (Zc ρ h Z0 ls)) hr.len (fun a z => z.elim (fun z => .inl (hd.live hr z)) fun z => z.1) e rfl rr
   grind
  ·cases er : runFd cl call fuel fd as os with
   | ex c v => rw [er] at q; unfold after at q; dsimp only at q; split at q <;> exact q.elim
   | no => rw [er] at q; exact q.elim
   | ok r h' =>
    rw [er] at q
    intro ρ' H' v ex hr' rr'
    unfold after at q
    dsimp only at q
    split at q
    ·rename_i fl
     cases ew : fz h' ls.length 20 r with
     | none => rw [ew] at q; exact q.elim
     | some w =>
      rw [ew] at q
      have B := hd.back (Zx := Z0) hr ex hr' fl fun a z => .inl z
      exact q ρ H' v B.ex B.hr (show VR C H' _ w v from fz_ok hr' B.av 20 r v w ew rr')
    ·exact q.elim
theorem kp_core (hr : HR C Z0 ρ h H) (rr : RRs C H (Av ρ h Z0) ρ rs vs) (q : EQ C Z0 ρ h H Q (runBy cl fuel fd call .kp rs h)) : spR C cl call fuel fd vs H Q E := by
 unfold runBy at q
 dsimp only at q
 cases e : hand rs h 0 with
 | none => rw [e] at q; exact q.elim
 | some x =>
  obtain ⟨ls, as, os⟩ := x
  rw [e] at q
  dsimp only at q
  have hd := hand_ok e
  refine ⟨Zc ρ h Z0 ls, ls.map (adr ρ), os, as, hd.start hr, ?_, ?_⟩
  ·have := hand_args (pre := []) (Z' := Av (ls.map (adr ρ)) os (Zc ρ h Z0 ls)) hr.len (fun a z => z.elim (fun z => .inl (hd.live hr z)) fun z => z.1) e rfl rr
   grind
  ·cases er : runFd cl call fuel fd as os with
   | ex c v => rw [er] at q; exact q.elim
   | no => rw [er] at q; exact q.elim
   | ok r h' =>
    rw [er] at q
    intro ρ' H' v ex hr' rr'
    unfold afterK at q
    cases r with
    | w w => exact q.elim
    | loc l =>
     dsimp only at q
     split at q
     ·rename_i hc
      obtain ⟨fl, hl⟩ := and2 hc
      cases eo : h'[l]? with
      | none => rw [eo] at q; exact q.elim
      | some o =>
       rw [eo] at q
       dsimp only at q
       split at q
       ·rename_i fo
        obtain ⟨p, ep, rfl⟩ := rr'
        have lv : Live ρ' h' p := ⟨l, o, ep, eo, flat_live fo⟩
        have B := hd.back (Zx := Zp Z0 p) hr ex hr' fl fun a z => z.imp id fun z => by subst z; exact ⟨lv, l, Nat.le_of_ble_eq_true hl, ep⟩
        have np : H p = none := by
         cases q : H p with
         | none => rfl
         | some u =>
          by_cases z : Live (ls.map (adr ρ)) os p
          ·obtain ⟨i, x, e1, _, _⟩ := z
           have := nodup_get hr'.nd ep (ex.get e1)
           simp_all
          ·exact absurd lv (ex.fr p u q z).2
        have nz : ¬ Z0 p := fun z => by obtain ⟨u, q⟩ := hr.zd p z; rw [np] at q; cases q
        have q0 : OR C H' (Av ρ (putBack ls (h'.take ls.length) h) (Zp Z0 p)) ρ p o := OR.mono (fun a z => by
         rcases z with z | z | z
         ·exact (B.av a (.inl z)).elim (fun ⟨_, _, _, q⟩ => .inl q) .inr
         ·exact (B.av a (.inr z)).elim (fun ⟨_, _, _, q⟩ => .inl q) .inr
         ·subst z; exact .inl lv) (OR.flat fo (hr'.ob l o p eo ep (flat_live fo)))
        refine q (ρ ++ [p]) H' (.ref p) (B.ex.adopt B.hr np) (B.hr.adopt nz q0 (RRs.app B.hr.len)) ⟨p, ?_, rfl⟩
        rw [<- B.hr.len]; simp
       ·exact q.elim
     ·exact q.elim
end
def Cal (P : Program) (w : World) (K : PySem.W.Frag) (mg : Str -> Option Value) (base : Heap) (CX : CXT) (N : Nm) (cl : Cls) (fuel : Nat) (call : Call) (k i : Nat) (f : Addr) (fdt : FuncData) (ps : List Str) : Prop :=
 (∀ m rs h, call m i rs h = .no) ∨ ∃ fd call', (∀ m rs h, call m i rs h = runBy cl fuel fd call' m rs h) ∧ FnG P w K mg base CX k f fdt ps (spR ⟨w, K, N.cls, N.fld, N.own⟩ cl call' fuel fd)
section
variable {X : Cx} {N : Nm} {cl : Cls} {call : Call} {fuel k i : Nat} {f C g : Addr} {fdt : FuncData} {ps : List Str} {CX : CXT} {x m : Str} {p pos apos : Pos} {e o : Expr} {es : List Expr} {ies : List E} {io : E}
theorem no_call {i : Nat} {m : Md} {t : TE} {ies : List E} (n : ∀ m rs h, call m i rs h = .no) {e : Expr} : PE X e (tEv (ct N X) (ev cl call (.call m i ies))) := ⟨fun pins s σ H Q I ⟨Z0, ρ, h, env, hr, er, q⟩ => by
 unfold ev at q
 cases e1 : evs cl call ies env h with
 | ex c v => rw [e1] at q; exact q.elim
 | no => rw [e1] at q; exact q.elim
 | ok rs h1 =>
  rw [e1] at q
  dsimp only at q
  rw [n] at q
  exact q.elim⟩
theorem vapp {vs : List V} : vs ++ ([] : List V) = vs := List.append_nil vs
theorem se_call (F : Cal X.prog X.w X.K X.mg X.base CX N cl fuel call k i f fdt ps) (hr : RoomG k X.A) (hg : Gl X x) (hm : X.mg x = some (.ref f)) (hk : PySem.W.keepIn X.K (.ref f) = true) (hb : Binds X.K fdt ps []) (hx : ∀ E, Passes CX X E)
  (ha : PA X (e :: es) (tEvs (ct N X) (evs cl call ies))) (hdb : (x == ("__debug__" : Str)) = false) (he : starEach (e :: es) X.env = (false, eval e X.env) :: starEach es X.env) (hpl : (backTo pos (starEach es X.env)).any (·.1) = false) :
  PE X (.Call (.Name x p) (e :: es) [] pos) (tEv (ct N X) (ev cl call (.call .pu i ies))) := by
 rcases F with n | ⟨fd, call', hc, F⟩
 ·exact no_call (t := fun _ _ _ => True) n
 ·refine PE.imp (call_g (E := fun _ _ _ => False) F hr hg hm hk hb .nil (hx _) ha hdb he hpl) fun σ H Q ⟨Z0, ρ, h, env, hr, er, q⟩ => ?_
  unfold ev at q
  refine ⟨Z0, ρ, h, env, hr, er, ?_⟩
  cases e1 : evs cl call ies env h with
  | ex c v => rw [e1] at q; exact q.elim
  | no => rw [e1] at q; exact q.elim
  | ok rs h1 =>
   rw [e1] at q
   dsimp only at q
   rw [hc] at q
   exact fun ρ1 H1 vs ex hr1 rr => by show spR _ _ _ _ _ (vs ++ []) H1 Q _; rw [vapp]; exact pu_core hr1 rr (EQ.later ex q)
theorem se_keep (F : Cal X.prog X.w X.K X.mg X.base CX N cl fuel call k i f fdt ps) (hr : RoomG k X.A) (hg : Gl X x) (hm : X.mg x = some (.ref f)) (hk : PySem.W.keepIn X.K (.ref f) = true) (hb : Binds X.K fdt ps []) (hx : ∀ E, Passes CX X E)
  (ha : PA X (e :: es) (tEvs (ct N X) (evs cl call ies))) (hdb : (x == ("__debug__" : Str)) = false) (he : starEach (e :: es) X.env = (false, eval e X.env) :: starEach es X.env) (hpl : (backTo pos (starEach es X.env)).any (·.1) = false) :
  PE X (.Call (.Name x p) (e :: es) [] pos) (tEv (ct N X) (ev cl call (.call .kp i ies))) := by
 rcases F with n | ⟨fd, call', hc, F⟩
 ·exact no_call (t := fun _ _ _ => True) n
 ·refine PE.imp (call_g (E := fun _ _ _ => False) F hr hg hm hk hb .nil (hx _) ha hdb he hpl) fun σ H Q ⟨Z0, ρ, h, env, hr, er, q⟩ => ?_
  unfold ev at q
  refine ⟨Z0, ρ, h, env, hr, er, ?_⟩
  cases e1 : evs cl call ies env h with
  | ex c v => rw [e1] at q; exact q.elim
  | no => rw [e1] at q; exact q.elim
  | ok rs h1 =>
   rw [e1] at q
   dsimp only at q
   rw [hc] at q
   exact fun ρ1 H1 vs ex hr1 rr => by show spR _ _ _ _ _ (vs ++ []) H1 Q _; rw [vapp]; exact kp_core hr1 rr (EQ.later ex q)
theorem fld_none {fld : Nat -> Str} {f : Nat} {m : Str} (inj : ∀ n, fld n = m -> n = f) : ∀ {ns : List Nat} {fs : List (Str × V)}, fs.map (·.1) = ns.map fld -> ns.contains f = false -> fs.lookup m = none
 | [], fs, e, _ => by
  simp_all
 | n :: ns, fs, e, h => by
  cases fs with
  | nil => simp at e
  | cons a b =>
   rw [List.map_cons, List.map_cons, List.cons.injEq] at e
   rw [List.contains_cons, Bool.or_eq_false_iff] at h
   rw [List.lookup_cons]
   have : (m == a.1) = false := by
    rw [beq_eq_false_iff_ne]
    intro z
    simp_all
   rw [this]
   exact fld_none inj e.2 h.2
theorem fld_get {Z : Addr -> Prop} {Ct : Ct} {H : Hp} {fld : Nat -> Str} {f : Nat} {m : Str} (inj : ∀ n, fld n = m -> n = f) (hf : fld f = m) : ∀ {ns : List Nat} {fs : List (Str × V)} {ws : List W} {w : W}, fs.map (·.1) = ns.map fld -> VRs Ct H Z ws (fs.map (·.2)) -> fldAt ns ws f = some w -> ∃ v, fs.lookup m = some v ∧ VR Ct H Z w v
 | [], fs, ws, w, e, r, h => by cases ws <;> cases h
 | n :: ns, fs, ws, w, e, r, h => by
  cases fs with
  | nil => simp at e
  | cons a b =>
   rw [List.map_cons, List.map_cons, List.cons.injEq] at e
   cases ws with
   | nil => cases h
   | cons w0 ws =>
    obtain ⟨v, t, e1, r1, r2⟩ := r
    rw [List.map_cons, List.cons.injEq] at e1
    unfold fldAt at h
    rw [List.lookup_cons]
    by_cases hn : n = f
    ·simp_all
    ·rw [if_neg hn] at h
     have : (m == a.1) = false := by
      rw [beq_eq_false_iff_ne]
      intro z
      simp_all
     rw [this]
     exact fld_get inj hf e.2 (by rw [e1.2]; exact r2) h
theorem fld_getR {Z : Addr -> Prop} {Ct : Ct} {H : Hp} {ρ : List Addr} {fld : Nat -> Str} {f : Nat} {m : Str} (inj : ∀ n, fld n = m -> n = f) (hf : fld f = m) : ∀ {ns : List Nat} {fs : List (Str × V)} {ws : List R} {w : R}, fs.map (·.1) = ns.map fld -> RRs Ct H Z ρ ws (fs.map (·.2)) -> fldAt ns ws f = some w -> ∃ v, fs.lookup m = some v ∧ RR Ct H Z ρ w v
 | [], fs, ws, w, e, r, h => by cases ws <;> cases h
 | n :: ns, fs, ws, w, e, r, h => by
  cases fs with
  | nil => simp at e
  | cons a b =>
   rw [List.map_cons, List.map_cons, List.cons.injEq] at e
   cases ws with
   | nil => cases h
   | cons w0 ws =>
    obtain ⟨v, t, e1, r1, r2⟩ := r
    rw [List.map_cons, List.cons.injEq] at e1
    unfold fldAt at h
    rw [List.lookup_cons]
    by_cases hn : n = f
    ·simp_all
    ·rw [if_neg hn] at h
     have : (m == a.1) = false := by
      rw [beq_eq_false_iff_ne]
      intro z
      simp_all
     rw [this]
     exact fld_getR inj hf e.2 (by rw [e1.2]; exact r2) h
theorem ins_at {C : Ct} {Z0 : Addr -> Prop} {ρ : List Addr} {h : Hh} {H : Hp} {r : R} {v : V} {c : Nat} (hr : HR C Z0 ρ h H) (rr : RR C H (Av ρ h Z0) ρ r v) (e : clsOf h r = some c) : ∃ a dx fs, v = .ref a ∧ H a = some (.ins (C.cls c) dx fs) ∧ FldsAs C c (fldsOf h r) fs := by
 cases r with
 | w w =>
  cases w with
  | ins c' ns ws =>
   cases e
   obtain ⟨a, dx, fs, e1, e2, _, e3, _⟩ := rr
   exact ⟨a, dx, fs, e1, e2, e3⟩
  | _ => cases e
 | loc l =>
  obtain ⟨a, ea, rfl⟩ := rr
  unfold clsOf at e
  unfold fldsOf
  dsimp only at e ⊢
  cases eo : h[l]? with
  | none => simp_all
  | some o =>
   rw [eo] at e
   cases o with
   | ins c' ns us =>
    cases e
    obtain ⟨dx, fs, e1, e2, _⟩ := hr.ob l _ a eo ea (by intro z; cases z)
    exact ⟨a, dx, fs, rfl, e1, e2⟩
   | _ => cases e
theorem meth_core {fn c : Nat} {t : TA} {te : TE} {Cc : Ct} {sp : Sp} {E : XK} (hc0 : Cc.cls c = C) (one : ∀ c' g', look2 cl.meths c' fn = some g' -> c' = c ∧ g' = i) (inj : ∀ n, Cc.fld n = m -> n = fn) (hte : te = tEv Cc (ev cl call io)) (ht : t = tEvs Cc (evs cl call ies))
  (core : ∀ Z0 ρ h H rs vs Q, HR Cc Z0 ρ h H -> RRs Cc H (Av ρ h Z0) ρ rs vs -> EQ Cc Z0 ρ h H Q (call .pu i rs h) -> sp vs H Q E) {σ : Sg} {H : Hp} {Q : VK} (q : tEv Cc (ev cl call (.meth fn io ies)) σ H Q) : tMeth C m sp [] E te t σ H Q := by
 subst hte ht
 obtain ⟨Z0, ρ, h, env, hr, er, q⟩ := q
 unfold ev at q
 refine ⟨Z0, ρ, h, env, hr, er, ?_⟩
 cases e1 : ev cl call io env h with
 | ex c v => rw [e1] at q; exact q.elim
 | no => rw [e1] at q; exact q.elim
 | ok r h1 =>
  rw [e1] at q
  dsimp only at q
  intro ρ1 H1 v ex hr1 rr
  cases e2 : methF cl fn r h1 with
  | none => rw [e2] at q; exact q.elim
  | some g' =>
   rw [e2] at q
   unfold methF at e2
   cases e3 : clsOf h1 r with
   | none => rw [e3] at e2; cases e2
   | some c' =>
    rw [e3] at e2
    dsimp only at e2
    split at e2
    ·cases e2
    ·rename_i nf
     obtain ⟨rfl, rfl⟩ := one c' g' e2
     obtain ⟨a, dx, fs, ev1, ea, ef⟩ := ins_at hr1 rr e3
     rw [hc0] at ea
     refine ⟨a, dx, fs, ev1, ea, fld_none inj ef.2 (by simpa using nf), Z0, ρ1, h1, env, hr1, er.ex ex, ?_⟩
     cases e4 : evs cl call ies env h1 with
     | ex c v => rw [e4] at q; exact q.elim
     | no => rw [e4] at q; exact q.elim
     | ok rs h2 =>
      rw [e4] at q
      intro ρ2 H2 vs ex2 hr2 rrs
      rw [vapp]
      exact core Z0 ρ2 h2 H2 (r :: rs) (v :: vs) Q hr2 ⟨v, vs, rfl, RR.ex ex2 rr, rrs⟩ (EQ.later (ex.trans ex2) q)
theorem se_meth {fn c : Nat} {pl : Sem Bool} (F : Cal X.prog X.w X.K X.mg X.base CX N cl fuel call k i f fdt ps) (hc0 : N.cls c = C) (one : ∀ c' g', look2 cl.meths c' fn = some g' -> c' = c ∧ g' = i) (inj : ∀ n, N.fld n = m -> n = fn)
  (he : PE X o (tEv (ct N X) (ev cl call io))) (cc : L2.Cls X.K C) (hm : Meth X.K C m f) (hr : RoomG k X.A) (hb : Binds X.K fdt ps []) (hx : ∀ E, Passes CX X E) (ha : PA X (e :: es) (tEvs (ct N X) (evs cl call ies)))
  (hst : starEach (e :: es) X.env = (false, eval e X.env) :: starEach es X.env) (hpl : (backTo pos (starEach es X.env)).any (·.1) = false)
  (ht : eval (.Call (.Attribute o m apos) (e :: es) [] pos) X.env = (do
   let ov <- eval o X.env
   standAt apos.atName
   let (f, first) <- holding [ov] (getMethod ov m pl)
   callWith pos f first (backTo pos (starEach (e :: es) X.env)) (backToKw pos (keywordEach [] X.env)))) : PE X (.Call (.Attribute o m apos) (e :: es) [] pos) (tEv (ct N X) (ev cl call (.meth fn io ies))) := by
 rcases F with n | ⟨fd, call', hc, F⟩
 ·refine ⟨fun pins s σ H Q I q => ?_⟩
  obtain ⟨Z0, ρ, h, env, hr, er, q⟩ := q
  unfold ev at q
  split at q
  ·split at q
   ·rename_i g' hg
    split at q
    ·unfold methF at hg
     split at hg
     ·split at hg
      ·grind
      ·rw [(one _ _ hg).2, n] at q
       exact q.elim
     ·grind
    ·exact q.elim
    ·exact q.elim
   ·exact q.elim
  ·exact q.elim
  ·exact q.elim
 ·exact PE.imp (meth_g (E := fun _ _ _ => False) he cc hm F hr hb .nil (hx _) ha hst hpl ht) fun σ H Q q => meth_core (Cc := ct N X) hc0 one inj rfl rfl (fun Z0 ρ h H rs vs Q hr rr q => pu_core hr rr (by rw [<- hc]; exact q)) q
theorem se_fld {fn : Nat} (inj : ∀ n, N.fld n = m -> n = fn) (hf : N.fld fn = m) (cc : ∀ c, N.own c = true -> L2.Cls X.K (N.cls c) ∧ NoAttr X.K (N.cls c) m) (he : PE X o (tEv (ct N X) (ev cl call io))) (hab : attributeBase o m X.env (eval o X.env) = eval o X.env) :
  PE X (.Attribute o m pos) (tEv (ct N X) (ev cl call (.op (.fld fn) [io]))) :=
 PE.imp (pe_fld he hab) fun σ H Q q => by
  obtain ⟨Z0, ρ, h, env, hr, er, q⟩ := tEv_op1 (fun _ _ => rfl) q
  refine ⟨Z0, ρ, h, env, hr, er, EQ.imp (fun v H' r => ?_) q⟩
  obtain ⟨Z1, ρ1, h1, r, hr1, rr, q⟩ := r
  cases r with
  | w w =>
   obtain ⟨u, e, q2⟩ := q.w1
   cases w with
   | ins c ns ws =>
    obtain ⟨a, dx, fs, e1, e2, _, e3, rv⟩ := rr
    obtain ⟨z, l, rz⟩ := fld_get inj hf e3.2 rv e
    exact ⟨a, _, dx, fs, z, e1, e2, (cc c e3.1).1, (cc c e3.1).2, l, q2.val hr1 rz⟩
   | _ => cases e
  | loc l =>
   have e : opR (.fld fn) [.loc l] h1 = match oh_fld fn [.loc l] h1 with | some (r, h') => .ok r h' | none => .no := rfl
   rw [e] at q
   unfold oh_fld at q
   dsimp only at q
   obtain ⟨a, ea, hx⟩ := rr
   cases eo : h1[l]? with
   | none => rw [eo] at q; exact q.elim
   | some o =>
    rw [eo] at q
    cases o with
    | ins c ns us =>
     dsimp only at q
     cases e4 : fldAt ns us fn with
     | none => rw [e4] at q; exact q.elim
     | some r2 =>
      rw [e4] at q
      obtain ⟨dx, fs, e1, e2, rs⟩ := hr1.ob l _ a eo ea (by intro z; cases z)
      obtain ⟨z, l2, rz⟩ := fld_getR inj hf e2.2 rs e4
      exact ⟨a, _, dx, fs, z, hx, e1, (cc c e2.1).1, (cc c e2.1).2, l2, EQ.ref q hr1 rz⟩
    | _ => exact q.elim
end
end Tf
namespace Tf
open PySem L2 PyProof.Rows
section
variable {C : Ct} {H H' : Hp} {Z0 : Addr -> Prop} {ρ ρ' : List Addr} {h h' : Hh} {p : Addr} {l : Nat} {u v : HO} {o o' : O}
theorem live_set (d : o ≠ .dead) (e1 : ρ[l]? = some p) (e2 : h[l]? = some o) (d' : o' ≠ .dead) {a : Addr} : Live ρ (h.set l o') a ↔ Live ρ h a := by
 have hl : l < h.length := (List.getElem?_eq_some_iff.mp e2).1
 constructor
 ·rintro ⟨n, x, x1, x2, x3⟩
  by_cases hn : l = n
  ·subst hn
   rw [e1] at x1; cases x1
   exact ⟨l, o, e1, e2, d⟩
  ·rw [List.getElem?_set_ne hn] at x2
   exact ⟨n, x, x1, x2, x3⟩
 ·rintro ⟨n, x, x1, x2, x3⟩
  by_cases hn : l = n
  ·subst hn
   rw [e1] at x1; cases x1
   exact ⟨l, o', e1, List.getElem?_set_self hl, d'⟩
  ·exact ⟨n, x, x1, by rw [List.getElem?_set_ne hn]; exact x2, x3⟩
theorem RRs.av (k : ∀ a, Av ρ' h' Z0 a -> Av ρ h Z0 a) (pr : ρ' = ρ) {rs : List R} {vs : List V} (r : RRs C H (Av ρ h Z0) ρ rs vs) : RRs C H (Av ρ' h' Z0) ρ' rs vs := by
 subst pr
 exact RRs.mono k r
theorem HR.put (hr : HR C Z0 ρ h H) (e1 : ρ[l]? = some p) (e2 : h[l]? = some o) (d : o ≠ .dead) (d' : o' ≠ .dead) (eH : H p = some v) (nt : NoT v) (new : OR C (L2.upd H p u) (Av ρ h Z0) ρ p o') :
  HR C Z0 ρ (h.set l o') (L2.upd H p u) ∧ Ex ρ h H ρ (h.set l o') (L2.upd H p u) := by
 have hl : l < h.length := (List.getElem?_eq_some_iff.mp e2).1
 have lv : Live ρ h p := ⟨l, o, e1, e2, d⟩
 have ls := fun a => live_set (a := a) d e1 e2 d'
 have av : ∀ a, Av ρ (h.set l o') Z0 a -> Av ρ h Z0 a := fun a z => z.imp (ls a).mp id
 refine ⟨⟨by rw [List.length_set]; exact hr.len, hr.nd, fun n x a x1 x2 x3 => ?_, fun a z => ?_, fun a z => ?_, hr.dj⟩, ⟨⟨[], by simp⟩, fun a x q n => ?_, fun a xs q => ?_, fun a ob φ q => ?_⟩⟩
 ·by_cases hn : l = n
  ·subst hn
   rw [e1] at x2; cases x2
   rw [List.getElem?_set_self hl] at x1
   cases x1
   exact OR.mono av new
  ·rw [List.getElem?_set_ne hn] at x1
   refine OR.mono av (OR.upd eH nt (.inl lv) (hr.ob n x a x1 x2 x3) fun z => ?_)
   subst z
   exact hn (nodup_get hr.nd e1 x2)
 ·by_cases y : a = p
  ·subst y; exact ⟨u, upd_same⟩
  ·obtain ⟨v, q⟩ := hr.zd a z
   exact ⟨v, by rw [upd_ne y]; exact q⟩
 ·by_cases y : a = p
  ·subst y; exact ⟨u, upd_same⟩
  ·obtain ⟨v, q⟩ := hr.tr a z
   exact ⟨v, by rw [upd_ne y]; exact q⟩
 ·have ne : a ≠ p := fun z => n (by rw [z]; exact lv)
  exact ⟨by rw [upd_ne ne]; exact q, fun z => n ((ls a).mp z)⟩
 ·obtain ⟨w, q, dn⟩ := q
  have ne : a ≠ p := fun z => by
   subst z
   rw [eH] at q; exact (nt xs).2 w _ (Option.some.inj q)
  exact ⟨w, by rw [upd_ne ne]; exact q, dn⟩
 ·rw [upd_ne (fun z => by subst z; rw [eH] at q; exact (nt []).2 _ _ (Option.some.inj q))]; exact q
theorem rrs_set {Z : Addr -> Prop} : ∀ {rs : List R} {vs : List V} {i : Nat} {r : R} {x : V}, RRs C H Z ρ rs vs -> RR C H Z ρ r x -> RRs C H Z ρ (rs.set i r) (vs.set i x)
 | [], vs, i, r, x, h, hx => by unfold RRs at h; subst h; exact rfl
 | a :: rs, vs, 0, r, x, ⟨v, t, e, h1, h2⟩, hx => by subst e; exact ⟨x, t, rfl, hx, h2⟩
 | a :: rs, vs, i + 1, r, x, ⟨v, t, e, h1, h2⟩, hx => by subst e; exact ⟨v, _, rfl, h1, rrs_set h2 hx⟩
theorem rrs_app {Z : Addr -> Prop} : ∀ {rs : List R} {vs : List V} {us : List R} {ws : List V}, RRs C H Z ρ rs vs -> RRs C H Z ρ us ws -> RRs C H Z ρ (rs ++ us) (vs ++ ws)
 | [], vs, us, ws, h, h2 => by unfold RRs at h; subst h; exact h2
 | a :: rs, vs, us, ws, ⟨v, t, e, h1, h3⟩, h2 => by subst e; exact ⟨v, _, rfl, h1, rrs_app h3 h2⟩
end
section
variable {X : Cx} {N : Nm} {cl : Cls} {call : Call} {fuel : Nat}
theorem vals_set : ∀ {vs : List V} {us : List Value} {j : Nat} {v : V} {u : Value}, Vals vs us -> RelV v u -> Vals (vs.set j v) (us.set j u)
 | _, _, _, _, _, .nil, _ => .nil
 | _, _, 0, _, _, .cons _ t, r => .cons r t
 | _, _, j + 1, _, _, .cons q t, r => .cons q (vals_set t r)
section
variable {pins : List (Addr × Obj)} {σ : Sg} {H : Hp} {s : Shared} {Z : Addr -> Prop}
theorem dict_ok {h : Heap} {a : Addr} {o : Obj} {ks : List W} {kv vv : List V} {H : Hp} (d : DictAt X.w a o ks kv vv h) : ObjOk X.prog X.w H h a (dictO X.w a o ks kv vv) := by
 have d' := d
 obtain ⟨es, ep, us, zs, ho, _⟩ := d
 refine ⟨d', ⟨o, ho⟩, fun h1 h2 ⟨es, ep, us, zs, ho, r⟩ k => ⟨es, ep, us, zs, k o ho, r⟩⟩
theorem dict_put (I : Inv X pins σ H s) (hu : X.A.units + 64 < cLine) {a : Addr} {ks : List W} {kv vv : List V} (e : IsD H X.w a ks kv vv) (hk : VRs (ct N X) H Z ks kv)
  {x : W} {xv yv : V} {u y : Value} (hx : keyOk 8 x = true) (hz : ks.length < sizeLine) (vx : VR (ct N X) H Z x xv) (rx : RelV xv u) (ry : RelV yv y)
  {Q : Unit -> Shared -> Prop} {E : Value -> Shared -> Prop}
  (q1 : ∀ j k s', ks[j]? = some k -> weq k x = true -> (∀ i k', i < j -> ks[i]? = some k' -> weq k' x = false) -> ∀ ob, Inv X pins σ (upd H a (dictO X.w a ob ks kv (vv.set j yv))) s' -> Q () s')
  (q2 : ∀ s', (∀ k ∈ ks, weq k x = false) -> ∀ ob, Inv X pins σ (upd H a (dictO X.w a ob (ks ++ [x]) (kv ++ [xv]) (vv ++ [yv]))) s' -> Q () s') : wpAny (model X.prog X.w) X.A (setItem (.ref a) u y) Q E s := by
 obtain ⟨o, es, ep, ws, zs, D⟩ := dict_is (N := N) I e hk
 have kx := VR.key (N := N) I hx vx rx
 have hsz := D.size
 refine TfD.setItem_nk (by show X.A.units + 1 + 8 < cLine; omega) kx D.d (by rw [hsz]; exact D.sz) fun r h' hr hs => ?_
 obtain ⟨same, o', es', ep', ho', hex', hd', hl'⟩ := hs
 have keep : ∀ b ob, b ≠ a -> s.heap.get? b = some ob -> h'.get? b = some ob := by simp_all
 rcases hr with ⟨rfl, hn⟩ | ⟨j, rfl, hj⟩
 ·have no := told_no D.ok hx hn
  refine q2 _ no o' (I.write (x := a) (e := a) (by obtain ⟨_, e⟩ := e; rw [e]; trivial) (.inl rfl) keep ⟨_, ho'⟩ (dict_ok ?_))
  refine ⟨es', ep', ws ++ [u], zs ++ [y], ho', hex', hd', D.d.sm, D.vk.append (.cons rx .nil), D.vz.append (.cons ry .nil), by simp [D.lk], by simp [D.lz], ?_, ?_, ?_, ?_⟩
  ·rw [<- ents_app D.lk D.lz, <- D.el]; exact hl'
  ·rw [List.map_append, List.nodup_append]
   exact ⟨D.nd, by simp, fun k hk2 k2 h2 z => by
    have : k2 = nk x := by simp_all
    subst this
    subst z
    exact hn hk2⟩
  ·rw [List.all_append, D.ok]; simp [hx]
  ·simp; omega
 ·obtain ⟨k, e1, e2, e3⟩ := told_at D.ok hx D.nd hj
  refine q1 j k _ e1 e2 e3 o' (I.write (x := a) (e := a) (by obtain ⟨_, e⟩ := e; rw [e]; trivial) (.inl rfl) keep ⟨_, ho'⟩ (dict_ok ?_))
  refine ⟨es', ep', ws, zs.set j y, ho', hex', hd', D.d.sm, D.vk, vals_set D.vz ry, D.lk, by simp [D.lz], ?_, D.nd, D.ok, D.sz⟩
  rw [<- ents_set D.lk D.lz, <- D.el]; exact hl'
end
def rSub (C : Ct) : V -> V -> V -> Hp -> (Hp -> Prop) -> Prop := fun o i v H Q => ∃ Z0 ρ h ro ri r h', HR C Z0 ρ h H ∧ RR C H (Av ρ h Z0) ρ ro o ∧ RR C H (Av ρ h Z0) ρ ri i ∧ RR C H (Av ρ h Z0) ρ r v ∧ setSub ro ri r h = some h' ∧
 ∀ H', Ex ρ h H ρ h' H' -> HR C Z0 ρ h' H' -> Q H'
theorem set_sub (hu : X.A.units + 64 < cLine) : PSet X (rSub (ct N X)) := by
 intro pins s σ H o i v ov iv u Q I ro ri rv q
 obtain ⟨Z0, ρ, h, r1, r2, r, h', hr, q1, q2, q3, e, q⟩ := q
 unfold setSub at e
 cases r1 with
 | w w => cases e
 | loc l =>
  cases r2 with
  | loc m => cases e
  | w x =>
   dsimp only at e
   obtain ⟨a, ea, rfl⟩ := q1
   have q2 := rr_w q2
   cases eo : h[l]? with
   | none => simp_all
   | some ob =>
    rw [eo] at e
    have ho := hr.ob l ob a eo ea
    cases ob with
    | lst rs =>
     cases x with
     | int k =>
      dsimp only at e
      split at e
      ·rename_i hk
       cases e
       obtain ⟨vs, e1, rr⟩ := ho (by intro z; cases z)
       have hl := rrs_len rr
       obtain ⟨p1, p2⟩ := hr.put (u := .lst (vs.set k.toNat v)) (o' := .lst (rs.set k.toNat r)) ea eo (by intro z; cases z) (by intro z; cases z) e1 noT_lst ⟨_, upd_same, RRs.upd e1 noT_lst (.inl ⟨l, _, ea, eo, by intro z; cases z⟩) (rrs_set rr q3)⟩
       refine set_list pins s σ H _ _ _ _ _ u Q I ro ri rv ⟨a, vs, k, k.toNat, rfl, vr_int q2, e1, ?_, q _ p2 p1⟩
       unfold L2.ixN
       rw [if_pos hk.1, if_pos (by rw [hl]; have := hk.2; omega)]
      ·cases e
     | _ => cases e
    | dct ks us =>
     have e : (if (keyOk 8 x && decide (ks.length < sizeMax)) = true then some (h.set l (.dct (dput ks us x r).1 (dput ks us x r).2)) else none) = some h' := by
      omega
     split at e
     ·rename_i hc
      obtain ⟨kx, hz⟩ := and2 hc
      have hz := of_decide_eq_true hz
      cases e
      obtain ⟨kv, vv, e1, rk, rr⟩ := ho (by intro z; cases z)
      have hl := rrs_len rr
      have hl2 := (dict_lens I e1).2.1
      cases (show ov = Value.ref a from ro)
      have lv : Live ρ h a := ⟨l, _, ea, eo, by intro z; cases z⟩
      refine dict_put (N := N) I hu e1 rk kx (by have := sz_line (Nat.le_refl sizeMax); omega) q2 ri rv (fun j k s' x1 x2 x3 ob I' => ?_) (fun s' no ob I' => ?_)
      ·refine ⟨_, I', ?_⟩
       have hp := (find_at (y := r) x1 x2 x3).2.2 us (by omega)
       rw [hp] at q
       obtain ⟨ob1, e1⟩ := e1
       obtain ⟨p1, p2⟩ := hr.put (u := dictO X.w a ob ks kv (vv.set j v)) (o' := .dct ks (us.set j r)) ea eo (by intro z; cases z) (by intro z; cases z) e1 noT_dct ⟨_, _, ⟨_, upd_same⟩, VRs.upd e1 noT_dct (.inl lv) rk, RRs.upd e1 noT_dct (.inl lv) (rrs_set rr q3)⟩
       exact q _ p2 p1
      ·refine ⟨_, I', ?_⟩
       have hp := (find_no (y := r) no).2.2 us (by omega)
       rw [hp] at q
       obtain ⟨ob1, e1⟩ := e1
       obtain ⟨p1, p2⟩ := hr.put (u := dictO X.w a ob (ks ++ [x]) (kv ++ [i]) (vv ++ [v])) (o' := .dct (ks ++ [x]) (us ++ [r])) ea eo (by intro z; cases z) (by intro z; cases z) e1 noT_dct
        ⟨_, _, ⟨_, upd_same⟩, VRs.upd e1 noT_dct (.inl lv) (vrs_app rk (by unfold VRs; exact ⟨i, [], rfl, q2, by unfold VRs; rfl⟩)), RRs.upd e1 noT_dct (.inl lv) (rrs_app rr ⟨v, [], rfl, q3, rfl⟩)⟩
       exact q _ p2 p1
     ·cases e
    | ins c ns us => cases x <;> cases e
    | tup _ => cases x <;> cases e
    | exc _ _ => cases x <;> cases e
    | dead => cases x <;> cases e
theorem ss_sub {o i e : Expr} {io ii ie : E} {tpos pos : Pos} (hu : X.A.units + 64 < cLine) (pe : PE X e (tEv (ct N X) (ev cl call ie))) (po : PE X o (tEv (ct N X) (ev cl call io))) (pi : PE X i (tEv (ct N X) (ev cl call ii)))
  (ha : ∀ v, assign (.Subscript o i tpos) X.env v = (do
   let ov <- holding [v] (eval o X.env)
   let iv <- holding [v, ov] (eval i X.env)
   standAt tpos
   holding [v, ov, iv] (setItem ov iv v)
   release [v, ov, iv] []))
  (hs : swapsWithSole [.Subscript o i tpos] e pos.line X.env = pure false) (hw : swappedStores [.Subscript o i tpos] e X.env = pure none)
  (h1 : (assignEach [.Subscript o i tpos] X.env).map (·.2) = [assign (.Subscript o i tpos) X.env]) : PS X (.Assign [.Subscript o i tpos] e pos) (tEx (ct N X) (exec cl call fuel (.sub io ii ie))) :=
 PS.imp (ps_asg pe (pg_sub po pi (set_sub (N := N) hu) ha) hs hw h1) fun D σ H ⟨Z0, ρ, h, env, hr, er, q⟩ => by
  refine ⟨Z0, ρ, h, env, hr, er, ?_⟩
  unfold exec at q
  cases e1 : ev cl call ie env h with
  | ex c v => rw [e1] at q; exact q.elim
  | no => rw [e1] at q; exact q.elim
  | ok r h1 =>
   rw [e1] at q
   intro ρ1 H1 v ex1 hr1 rr1
   refine ⟨Z0, ρ1, h1, env, hr1, er.ex ex1, ?_⟩
   dsimp only at q
   cases e2 : ev cl call io env h1 with
   | ex c v => rw [e2] at q; exact q.elim
   | no => rw [e2] at q; exact q.elim
   | ok ro h2 =>
    rw [e2] at q
    intro ρ2 H2 ov ex2 hr2 rr2
    refine ⟨Z0, ρ2, h2, env, hr2, (er.ex ex1).ex ex2, ?_⟩
    dsimp only at q
    cases e3 : ev cl call ii env h2 with
    | ex c v => rw [e3] at q; exact q.elim
    | no => rw [e3] at q; exact q.elim
    | ok ri h3 =>
     rw [e3] at q
     intro ρ3 H3 iv ex3 hr3 rr3
     dsimp only at q
     cases e4 : setSub ro ri r h3 with
     | none => rw [e4] at q; exact q.elim
     | some h4 =>
      rw [e4] at q
      exact ⟨Z0, ρ3, h3, ro, ri, r, h4, hr3, rr2.ex ex3, rr3, (rr1.ex ex2).ex ex3, e4, fun H' ex4 hr4 => q ρ3 H' σ (((ex1.trans ex2).trans ex3).trans ex4) hr4 ((((er.ex ex1).ex ex2).ex ex3).ex ex4)⟩
end
end Tf
namespace Tf
open PySem L2 PyProof.Rows
section
variable {X : Cx} {N : Nm} {cl : Cls} {call : Call} {fuel : Nat}
theorem evs2 {a b : E} {env : Env} {h h1 : Hh} {rs : List R} (q : evs cl call [a, b] env h = .ok rs h1) : ∃ r r2 hm, rs = [r, r2] ∧ ev cl call a env h = .ok r hm ∧ ev cl call b env hm = .ok r2 h1 := by
 unfold evs at q
 cases e1 : ev cl call a env h with
 | ex c v => simp_all
 | no => simp_all
 | ok r hm =>
  rw [e1] at q
  dsimp only at q
  cases e2 : evs cl call [b] env hm with
  | ex c v => simp_all
  | no => simp_all
  | ok rs2 h2 =>
   rw [e2] at q
   injection q with q1 q2
   obtain ⟨r2, e3, e4⟩ := evs1 e2
   subst e3 q2
   exact ⟨r, r2, hm, q1.symm, rfl, e4⟩
theorem se_append {i : Nat} {x : Str} {e : Expr} {ie : E} {npos apos cpos : Pos} (hN : X.N[i]? = some x) (hv : Vis X.env.scope x) (hd : (x == ("__debug__" : Str)) = false) (hcd : (x == ("__classdict__" : Str)) = false) (ha : PA X [e] (tEvs (ct N X) (evs cl call [ie])))
  (hbase : attributeBase (.Name x npos) "append" X.env (eval (.Name x npos) X.env) = eval (.Name x npos) X.env)
  (hfew : ((backTo cpos (starEach [e] X.env)).all (fun x => !x.1) && (backToKw cpos (keywordEach [] X.env)).all (fun x => x.1.isSome)
   && decide (([e] : List Expr).length + ([] : List Keyword).length + (if ([] : List Keyword).isEmpty then 0 else 1) < 30)) = true)
  (hline : (apos.endLine == cpos.line) = true) (hs : starEach [e] X.env = (false, eval e X.env) :: starEach [] X.env) (hplain : (backTo cpos (starEach [] X.env)).any (·.1) = false) :
  PE X (.Call (.Attribute (.Name x npos) "append" apos) [e] [] cpos) (tEv (ct N X) (ev cl call (.mut .append i [ie]))) :=
 PE.imp (pe_bm PySem.F.plainAttrs_list PySem.F.slot_list_append PySem.F.type_list_append mt_append (pe_var hN hv hd hcd) ha hbase hfew hline hs hplain) fun σ H Q ⟨Z0, ρ, h, env, hr, er, q⟩ => by
  unfold ev at q
  cases en : env[i]? with
  | none => rw [en] at q; exact q.elim
  | some o =>
   rw [en] at q
   cases o with
   | none => exact q.elim
   | some r =>
    cases r with
    | w w => exact q.elim
    | loc l =>
     dsimp only at q
     obtain ⟨v, ev1, rr⟩ := er i _ en
     obtain ⟨a, ea, rfl⟩ := rr
     split at q
     case isFalse => exact q.elim
     rename_i hk
     have hl : ∃ rs, h[l]? = some (.lst rs) := by
      cases eo : h[l]? with
      | none => rw [eo] at hk; cases hk
      | some ob => cases ob with
       | lst rs => exact ⟨rs, rfl⟩
       | _ => rw [eo] at hk; cases hk
     obtain ⟨rs0, eo0⟩ := hl
     obtain ⟨vs0, ea0, _⟩ := hr.ob l _ a eo0 ea (by intro z; cases z)
     refine ⟨.ref a, ev1, .inl ⟨rfl, vs0, .of ea0⟩, Z0, ρ, h, env, hr, er, ?_⟩
     cases e1 : evs cl call [ie] env h with
     | ex c v => rw [e1] at q; exact q.elim
     | no => rw [e1] at q; exact q.elim
     | ok rs h1 =>
      rw [e1] at q
      obtain ⟨r2, rfl, _⟩ := evs1 e1
      have e4 : opR .append [.loc l, r2] h1 = match oh_append [.loc l, r2] h1 with | some (r, h') => .ok r h' | none => .no := rfl
      dsimp only at q
      rw [e4] at q
      unfold oh_append at q
      dsimp only at q
      intro ρ2 H2 vs ex2 hr2 rr2
      obtain ⟨y, rfl, ry⟩ := rrs1 rr2
      cases eo : h1[l]? with
      | none => rw [eo] at q; exact q.elim
      | some ob =>
       rw [eo] at q
       cases ob with
       | lst rs =>
        dsimp only at q
        split at q
        case h_2 => exact q.elim
        rename_i r3 h3 heq
        split at heq
        case isFalse => cases heq
        rename_i hz
        cases heq
        have ea2 := ex2.get ea
        obtain ⟨ws, e5, rw5⟩ := hr2.ob l _ a eo ea2 (by intro z; cases z)
        have lv : Live ρ2 h1 a := ⟨l, _, ea2, eo, by intro z; cases z⟩
        obtain ⟨p1, p2⟩ := hr2.put (u := .lst (ws ++ [y])) (o' := .lst (rs ++ [r2])) ea2 eo (by intro z; cases z) (by intro z; cases z) e5 noT_lst ⟨_, upd_same, RRs.upd e5 noT_lst (.inl lv) (rrs_app rw5 ⟨y, [], rfl, ry, rfl⟩)⟩
        exact ⟨a, ws, y, rfl, rfl, e5, by have := rrs_len rw5; have := sz_line (Nat.le_refl sizeMax); omega, q ρ2 _ .non (ex2.trans p2) p1 (by unfold RR VR; rfl)⟩
       | _ => exact q.elim
end
end Tf
namespace Tf
open PySem L2 PyProof.Rows
section
variable {X : Cx} {N : Nm} {cl : Cls} {call : Call}
theorem o_int1 : CallR X (.type "int") (rCall (ct N X) .int) := by
 intro pins s σ H xs us Q I r t
 obtain ⟨Z0, ρ, h, ws, w, hr, rv, e, q⟩ := t.ws fun _ _ => rfl
 have e : op_int ws = some w := e
 unfold op_int at e
 split at e
 ·cases e
  obtain ⟨x, rfl, r1⟩ := vrs1 rv
  have := vr_int r1
  subst this
  exact call_int1 pins s σ H _ us Q I r (.inl ⟨_, rfl, q.val hr vr_int_i⟩)
 ·cases e
  obtain ⟨x, rfl, r1⟩ := vrs1 rv
  have := vr_bl r1
  subst this
  exact call_int1 pins s σ H _ us Q I r (.inr ⟨_, rfl, q.val hr (by unfold VR b2i; rfl)⟩)
 ·cases e
theorem o_max2 (hc : X.calm = true) : CallR X (.builtin "max") (rCall (ct N X) .max2) := by
 intro pins s σ H xs us Q I r t
 obtain ⟨Z0, ρ, h, ws, w, hr, rv, e, q⟩ := t.ws fun _ _ => rfl
 have e : op_max2 ws = some w := e
 unfold op_max2 at e
 split at e
 ·cases e
  obtain ⟨x, y, rfl, r1, r2⟩ := vrs2 rv
  have := vr_int r1
  subst this
  have := vr_int r2
  subst this
  exact call_max2 hc pins s σ H _ us Q I r ⟨_, _, rfl, q.val hr vr_int_i⟩
 ·cases e
theorem seq_vr {C : Ct} {H : Hp} {Z : Addr -> Prop} {ws : List W} {x : V} (r : VR C H Z (.lst ws) x) : ∃ a vs, x = .ref a ∧ H a = some (.lst vs) ∧ ¬ Z a ∧ VRs C H Z ws vs := by unfold VR at r; exact r
theorem tup_vr {C : Ct} {H : Hp} {Z : Addr -> Prop} {ws : List W} {x : V} (r : VR C H Z (.tup ws) x) : ∃ a vs, x = .ref a ∧ SqN H a vs ∧ VRs C H Z ws vs := by unfold VR at r; exact r
theorem opR_many {o : Op} {a b : R} {c : List R} {h : Hh} (hw : ∀ x y z, opW o (x :: y :: z) = none) (hh : ∀ a b c h, opH o (a :: b :: c) h = none) : opR o (a :: b :: c) h = .no := by
 unfold opR
 cases e : allW (a :: b :: c) with
 | none => simp_all
 | some ws =>
  have := allW_some e
  match ws, this with
  | x :: y :: z, _ => simp_all
theorem chain_rd {C : Ct} {o1 o2 : Op} {ia ib ic : E} {σ : Sg} {H : Hp} {Q : VK} (t : tEv C (ev cl call (.chain o1 o2 ia ib ic)) σ H Q) : tChain (rOpR C o1) (rOpR C o2) (tEv C (ev cl call ia)) (tEv C (ev cl call ib)) (tEv C (ev cl call ic)) σ H Q := by
  obtain ⟨Z0, ρ, h, env, hr, er, q⟩ := t
  unfold ev at q
  refine ⟨Z0, ρ, h, env, hr, er, ?_⟩
  cases e1 : ev cl call ia env h with
  | ex c v => rw [e1] at q; exact q.elim
  | no => rw [e1] at q; exact q.elim
  | ok ra h1 =>
   rw [e1] at q
   intro ρ1 H1 x ex1 hr1 rx
   refine ⟨Z0, ρ1, h1, env, hr1, er.ex ex1, ?_⟩
   dsimp only at q
   cases e2 : ev cl call ib env h1 with
   | ex c v => rw [e2] at q; exact q.elim
   | no => rw [e2] at q; exact q.elim
   | ok rb h2 =>
    rw [e2] at q
    intro ρ2 H2 y ex2 hr2 ry
    refine ⟨Z0, ρ2, h2, ra, rb, hr2, rx.ex ex2, ry, ?_⟩
    dsimp only at q
    cases e3 : opR o1 [ra, rb] h2 with
    | ex c v => rw [e3] at q; exact q.elim
    | no => rw [e3] at q; exact q.elim
    | ok rz h3 =>
     rw [e3] at q
     cases rz with
     | loc n => exact q.elim
     | w w =>
      cases w with
      | bl k =>
       intro ρ3 H3 z ex3 hr3 rz
       refine ⟨k, rr_bl rz, ?_⟩
       cases k with
       | false =>
        exact EQ.bl q ((ex1.trans ex2).trans ex3) hr3
       | true =>
        dsimp only at q
        refine ⟨Z0, ρ3, h3, env, hr3, ((er.ex ex1).ex ex2).ex ex3, ?_⟩
        cases e4 : ev cl call ic env h3 with
        | ex c v => rw [e4] at q; exact q.elim
        | no => rw [e4] at q; exact q.elim
        | ok rc h4 =>
         rw [e4] at q
         exact fun ρ4 H4 u ex4 hr4 ru => ⟨Z0, ρ4, h4, rb, rc, hr4, (ry.ex ex3).ex ex4, ru, EQ.later (((ex1.trans ex2).trans ex3).trans ex4) q⟩
      | _ => exact q.elim
theorem se_chain {a b c : Expr} {o1 o2 : Op} {op1 op2 : CmpOp} {ia ib ic : E} {pos : Pos} (k1 : OpR X (compareOp op1) (rOpR (ct N X) o1)) (k2 : OpR X (compareOp op2) (rOpR (ct N X) o2)) (pa : PE X a (tEv (ct N X) (ev cl call ia))) (pb : PE X b (tEv (ct N X) (ev cl call ib))) (pc : PE X c (tEv (ct N X) (ev cl call ic)))
  (hm : lastMarks [op1, op2] [b, c] = false) : PE X (.Compare a [op1, op2] [b, c] pos) (tEv (ct N X) (ev cl call (.chain o1 o2 ia ib ic))) :=
 PE.imp (pe_chain k1 k2 pa pb pc hm) fun σ H Q t => chain_rd t
end
end Tf
namespace Tf
open PySem L2 PyProof.Rows
section
variable {X : Cx} {N : Nm} {cl : Cls} {call : Call}
def shp : W -> W
 | .bl _ => .bl true
 | .int _ => .int 0
 | .str _ => .str []
 | .tup _ => .tup []
 | .lst _ => .lst []
 | .dct _ _ => .dct [] []
 | .ins c _ _ => .ins c [] []
 | w => w
theorem isInst_shp (t : Ty) (w : W) : isInst t w = isInst t (shp w) := by cases t <;> cases w <;> rfl
theorem any_shp (ts : List Ty) (w : W) : (ts.any fun t => isInst t w) = ts.any fun t => isInst t (shp w) := by
 grind [isInst_shp]
structure IsiOk (K : PySem.W.Frag) (N : Nm) (u : Value) (ts : List Ty) : Prop where
 non : PySem.W.kitOne K (.type "NoneType") u = some (ts.any fun t => isInst t .non)
 bl : PySem.W.kitOne K (.type "bool") u = some (ts.any fun t => isInst t (.bl true))
 int : PySem.W.kitOne K (.type "int") u = some (ts.any fun t => isInst t (.int 0))
 str : PySem.W.kitOne K (.type "str") u = some (ts.any fun t => isInst t (.str []))
 tup : PySem.W.kitOne K (.type "tuple") u = some (ts.any fun t => isInst t (.tup []))
 lst : PySem.W.kitOne K (.type "list") u = some (ts.any fun t => isInst t (.lst []))
 dct : PySem.W.kitOne K (.type "dict") u = some (ts.any fun t => isInst t (.dct [] []))
 own : ∀ c, N.own c = true -> L2.Cls K (N.cls c) ∧ PySem.W.findIn K (.ref (N.cls c)) "__class__" = some (some (.builtin "object.__class__")) ∧
  PySem.W.specialIn K (.builtin "object.__class__") "__get__" = some (some (.builtin "getset_descriptor.__get__")) ∧ PySem.W.takesIn K (.builtin "object.__class__") = some true ∧
  PySem.W.mroIn K (N.cls c) (.type "object") = some true ∧ PySem.W.kitOne K (.ref (N.cls c)) u = some (ts.any fun t => isInst t (.ins c [] []))
theorem tup_ty {K : PySem.W.Frag} {H : Hp} {a : Addr} {vs : List V} (s : SqN H a vs) : TyX K H (.ref a) (.type "tuple") := by
 obtain ⟨o, s, _⟩ := s
 exact .fTuple s
def rIsiD (K : PySem.W.Frag) (w : World) : List V -> Hp -> VK -> Prop := fun xs H Q => rIsi K xs H Q ∨ ∃ (a : Addr) (c : V) (u : Value) (ks : List W) (kv vv : List V) (b : Bool), xs = [.ref a, c] ∧ ClsV c u ∧ IsD H w a ks kv vv ∧ PySem.W.kitOne K (.type "dict") u = some b ∧ Q (.bl b) H
theorem call_isiD : CallR X (.builtin "isinstance") (rIsiD X.K X.w) := by
 intro pins s σ H xs us Q I r h
 rcases h with h | ⟨a, c, u, ks, kv, vv, b, rfl, k, ed, e, q⟩
 ·exact call_isi pins s σ H xs us Q I r h
 ·obtain ⟨u1, u2, rfl, r1, r2⟩ := vals2 r
  have e2 := k.eq r2
  subst e2
  cases (show u1 = Value.ref a from r1)
  exact PySem.W.kia_one PySem.W.kitx_dict I.kIn (dict_type I ed) e (fun z => nomatch z) fun tk => ⟨.bl b, H, I.tok tk, rfl, q⟩
theorem isi_core {u : Value} {c : V} {ts : List Ty} (k : ClsV c u) (ok : IsiOk X.K N u ts) {Z0 : Addr -> Prop} {ρ : List Addr} {h : Hh} {H : Hp} {r : R} {x : V} {Q : VK} (hr : HR (ct N X) Z0 ρ h H) (rr : RR (ct N X) H (Av ρ h Z0) ρ r x)
  (q : EQ (ct N X) Z0 ρ h H Q (opR (.isinst ts) [r] h)) : rIsiD X.K X.w [x, c] H Q := by
 cases r with
 | w w =>
  obtain ⟨b, e, q⟩ := q.w1
  have rr := rr_w rr
  have fin : ∀ {t : Value}, (∀ w', w ≠ .dct [] [] -> w = w' -> True) -> e = e -> TyX X.K H x t -> PySem.W.kitOne X.K t u = some (ts.any fun t => isInst t (shp w)) -> b = .bl (ts.any fun t => isInst t w) -> rIsiD X.K X.w [x, c] H Q := fun {t} _ _ ty ek eb => by
   subst eb
   exact .inl ⟨x, c, t, u, _, rfl, k, ty, ek, by rw [<- any_shp]; exact q.val hr vr_bl_i⟩
  cases w with
  | non => cases e; rw [vr_non rr] at *; exact fin (fun _ _ _ => trivial) rfl (.base .non) ok.non rfl
  | bl y => cases e; rw [vr_bl rr] at *; exact fin (fun _ _ _ => trivial) rfl (.base (.bl y)) ok.bl rfl
  | int i => cases e; rw [vr_int rr] at *; exact fin (fun _ _ _ => trivial) rfl (.base (.int i)) ok.int rfl
  | str y => cases e; rw [vr_str rr] at *; exact fin (fun _ _ _ => trivial) rfl (.base (.str (tx y))) ok.str rfl
  | tup ws =>
   cases e
   obtain ⟨a, vs, rfl, s, _⟩ := tup_vr rr
   exact fin (fun _ _ _ => trivial) rfl (tup_ty s) ok.tup rfl
  | lst ws =>
   cases e
   obtain ⟨a, vs, rfl, s, _⟩ := seq_vr rr
   exact fin (fun _ _ _ => trivial) rfl (.base (.lst s)) ok.lst rfl
  | ins c' ns ws =>
   cases e
   obtain ⟨a, dx, fs, rfl, e1, _, fa, _⟩ := rr
   obtain ⟨k1, k2, k3, k4, k5, k6⟩ := ok.own c' fa.1
   exact fin (fun _ _ _ => trivial) rfl (.base (.ins e1 k1 k2 k3 k4 k5)) k6 rfl
  | dct ks us =>
   cases e
   obtain ⟨a, kv, vv, rfl, e1, _⟩ := rr
   have ee : (ts.any fun t => isInst t (.dct ks us)) = ts.any fun t => isInst t (.dct [] []) := by
    congr 1; funext t; cases t <;> rfl
   exact .inr ⟨a, c, u, ks, kv, vv, _, rfl, k, e1, ok.dct, by rw [<- ee]; exact q.val hr vr_bl_i⟩
  | _ => cases e
 | loc l =>
  have e : opR (.isinst ts) [.loc l] h = match oh_isinst ts [.loc l] h with | some (r, h') => .ok r h' | none => .no := rfl
  rw [e] at q
  unfold oh_isinst at q
  dsimp only at q
  obtain ⟨a, ea, rfl⟩ := rr
  cases eo : h[l]? with
  | none => rw [eo] at q; exact q.elim
  | some o =>
   rw [eo] at q
   cases o with
   | lst rs =>
    obtain ⟨vs, e1, _⟩ := hr.ob l _ a eo ea (by intro z; cases z)
    have ee : (ts.any fun t => instO t (.lst rs)) = ts.any fun t => isInst t (.lst []) := by
     congr 1; funext t; cases t <;> rfl
    refine .inl ⟨_, c, _, u, _, rfl, k, .base (.lst e1), ok.lst, ?_⟩
    rw [<- ee]
    exact EQ.val (w := .bl _) q hr vr_bl_i
   | tup rs =>
    obtain ⟨vs, e1, _⟩ := hr.ob l _ a eo ea (by intro z; cases z)
    have ee : (ts.any fun t => instO t (.tup rs)) = ts.any fun t => isInst t (.tup []) := by
     congr 1; funext t; cases t <;> rfl
    refine .inl ⟨_, c, _, u, _, rfl, k, tup_ty e1, ok.tup, ?_⟩
    rw [<- ee]
    exact EQ.val (w := .bl _) q hr vr_bl_i
   | ins c' ns us =>
    obtain ⟨dx, fs, e1, fa, _⟩ := hr.ob l _ a eo ea (by intro z; cases z)
    obtain ⟨k1, k2, k3, k4, k5, k6⟩ := ok.own c' fa.1
    have ee : (ts.any fun t => instO t (.ins c' ns us)) = ts.any fun t => isInst t (.ins c' [] []) := by
     congr 1; funext t; cases t <;> rfl
    refine .inl ⟨_, c, _, u, _, rfl, k, .base (.ins e1 k1 k2 k3 k4 k5), k6, ?_⟩
    rw [<- ee]
    exact EQ.val (w := .bl _) q hr vr_bl_i
   | dct ks us =>
    obtain ⟨kv, vv, e1, _⟩ := hr.ob l _ a eo ea (by intro z; cases z)
    have ee : (ts.any fun t => instO t (.dct ks us)) = ts.any fun t => isInst t (.dct [] []) := by
     congr 1; funext t; cases t <;> rfl
    refine .inr ⟨a, c, u, ks, kv, vv, _, rfl, k, e1, ok.dct, ?_⟩
    rw [<- ee]
    exact EQ.val (w := .bl _) q hr vr_bl_i
   | _ => exact q.elim
theorem se_isi {e c : Expr} {ie : E} {cv : V} {u : Value} {ts : List Ty} {p pos : Pos} (hg : Gl X "isinstance") (hm : X.mg "isinstance" = none) (he : PE X e (tEv (ct N X) (ev cl call ie))) (hc : PE X c (tC cv)) (k : ClsV cv u) (ok : IsiOk X.K N u ts)
  (h1 : starEach [e, c] X.env = (false, eval e X.env) :: starEach [c] X.env) (h2 : starEach [c] X.env = (false, eval c X.env) :: starEach [] X.env) (hpl : (backTo pos (starEach [c] X.env)).any (·.1) = false) :
  PE X (.Call (.Name "isinstance" p) [e, c] [] pos) (tEv (ct N X) (ev cl call (.op (.isinst ts) [ie]))) :=
 PE.imp (pe_callB call_isiD hg hm rfl (pa_cons he (pa_cons hc pa_nil h2) h1) (by decide) (by decide) h1 hpl) fun σ H Q t => by
  obtain ⟨Z0, ρ, h, env, hr, er, q⟩ := tEv_op1 (fun _ _ => rfl) t
  refine ⟨Z0, ρ, h, env, hr, er, EQ.imp (fun x H1 q => ?_) q⟩
  obtain ⟨Z1, ρ1, h1, r, hr1, rr, q⟩ := q
  exact isi_core k ok hr1 rr q
theorem EQ.w2' {C : Ct} {Z0 : Addr -> Prop} {ρ : List Addr} {h h2 : Hh} {H : Hp} {Q : VK} {o : Op} {a b : W} (q : EQ C Z0 ρ h H Q (opR o [.w a, .w b] h2)) : ∃ w, opW o [a, b] = some w ∧ EQ C Z0 ρ h H Q (.ok (.w w) h2) := by
 have e : opR o [.w a, .w b] h2 = match opW o [a, b] with | some w => .ok (.w w) h2 | none => .no := rfl
 rw [e] at q
 cases e2 : opW o [a, b] with
 | none => rw [e2] at q; exact q.elim
 | some w => simp_all
theorem txAt_get : ∀ {ys : List Tx} {x : Tx} {n : Nat}, txAt ys x = some n -> ys[n]? = some x ∧ ∀ m, m < n -> ys[m]? ≠ some x
 | [], x, n, h => by cases h
 | y :: ys, x, n, h => by
  unfold txAt at h
  split at h
  ·cases h
   simp_all
  ·cases h1 : txAt ys x with
   | none => simp_all
   | some k =>
    have : k + 1 = n := by simp_all
    subst this
    obtain ⟨a, b⟩ := txAt_get h1
    refine ⟨by simpa using a, fun m hm => ?_⟩
    cases m <;> simp_all
theorem strs_vr {C : Ct} {H : Hp} {Z : Addr -> Prop} : ∀ {ws : List W} {ys : List Tx} {vs : List V}, strsOf ws = some ys -> VRs C H Z ws vs -> vs = (ys.map tx).map V.str
 | [], ys, vs, e, r => by cases e; unfold VRs at r; exact r
 | w :: ws, ys, vs, e, r => by
  unfold strsOf at e
  split at e
  ·simp_all
  ·rename_i x r0 h
   injection h with h1 h2
   subst h1 h2
   cases e1 : strsOf ws with
   | none => simp_all
   | some zs =>
    have : x :: zs = ys := by simp_all
    subst this
    obtain ⟨v, t, rfl, r1, r2⟩ := r
    rw [vr_str r1, strs_vr e1 r2]
    rfl
  ·cases e
theorem se_index {o e : Expr} {io ie : E} {apos cpos : Pos} (ho : PE X o (tEv (ct N X) (ev cl call io))) (ha : PA X [e] (tEvs (ct N X) (evs cl call [ie])))
  (hbase : attributeBase o "index" X.env (eval o X.env) = eval o X.env)
  (hfew : ((backTo cpos (starEach [e] X.env)).all (fun x => !x.1) && (backToKw cpos (keywordEach [] X.env)).all (fun x => x.1.isSome)
   && decide (([e] : List Expr).length + ([] : List Keyword).length + (if ([] : List Keyword).isEmpty then 0 else 1) < 30)) = true)
  (hline : (apos.endLine == cpos.line) = true) (hs : starEach [e] X.env = (false, eval e X.env) :: starEach [] X.env) (hplain : (backTo cpos (starEach [] X.env)).any (·.1) = false) :
  PE X (.Call (.Attribute o "index" apos) [e] [] cpos) (tEv (ct N X) (ev cl call (.op .index [io, ie]))) := by
 refine ⟨fun pins s σ H Q I t => ?_⟩
 obtain ⟨Z0, ρ, h, env, hr, er, q⟩ := t
 unfold ev at q
 cases e1 : evs cl call [io, ie] env h with
 | ex c v => rw [e1] at q; exact q.elim
 | no => rw [e1] at q; exact q.elim
 | ok rs h1 =>
  rw [e1] at q
  obtain ⟨r, r2, hm, rfl, e2, e3⟩ := evs2 e1
  have q : EQ (ct N X) Z0 ρ h H Q (opR .index [r, r2] h1) := q
  have sh : ∃ ws ys x n, (r = .w (.tup ws) ∨ r = .w (.lst ws)) ∧ r2 = .w (.str x) ∧ strsOf ws = some ys ∧ txAt ys x = some n ∧ opR .index [r, r2] h1 = .ok (.w (.int n)) h1 := by
   cases r with
   | loc l => exact q.elim
   | w w =>
    cases r2 with
    | loc l => exact q.elim
    | w w2 =>
     obtain ⟨u, eu, _⟩ := EQ.w2' q
     have eu2 : op_index [w, w2] = some u := eu
     unfold op_index at eu2
     split at eu2
     ·rename_i ws x hw
      injection hw with h5 h6
      injection h6 with h6 _
      subst h5 h6
      split at eu2
      ·rename_i ys hy
       cases en : txAt ys x with
       | none => rw [en] at eu2; cases eu2
       | some n =>
        have : W.int n = u := by simp_all
        subst this
        refine ⟨ws, ys, x, n, .inl rfl, rfl, hy, en, ?_⟩
        show (match opW .index [.tup ws, .str x] with | some w => Res.ok (R.w w) h1 | none => .no) = _
        rw [eu]
      ·cases eu2
     ·rename_i ws x hw
      injection hw with h5 h6
      injection h6 with h6 _
      subst h5 h6
      split at eu2
      ·rename_i ys hy
       cases en : txAt ys x with
       | none => simp_all
       | some n =>
        have : W.int n = u := by simp_all
        subst this
        refine ⟨ws, ys, x, n, .inr rfl, rfl, hy, en, ?_⟩
        show (match opW .index [.lst ws, .str x] with | some w => Res.ok (R.w w) h1 | none => .no) = _
        rw [eu]
      ·cases eu2
     ·grind
  obtain ⟨ws, ys, x, n, hrr, rfl, hy, hn, eo⟩ := sh
  have q9 := q
  rw [eo] at q9
  rcases hrr with rfl | rfl
  ·refine wpAny_Call_method_late hbase hfew hline rfl (thn (ho.run pins s σ H (fun v H1 => ∃ ρ1 vs a, v = .ref a ∧ Nx (ct N X) Z0 ρ h H env σ H1 ρ1 hm ∧ SqN H1 a vs ∧ VRs (ct N X) H1 (Av ρ1 hm Z0) ws vs) I (tEv.bind hr er e2 fun H1 ρ1 v n1 rr => ?_)) fun v s1 k1 => ?_)
   ·obtain ⟨a, vs, rfl, sq, rv⟩ := tup_vr (rr_w rr)
    exact ⟨ρ1, vs, a, rfl, n1, sq, rv⟩
   ·obtain ⟨v1, H1, I1, r1, ρ1, vs, a, rfl, n1, sq, rv⟩ := k1
    cases (show v = Value.ref a from r1)
    obtain ⟨ob, eH, ed⟩ := sq
    have eh : s1.heap.get? a = some ob := (I1.hok a _ eH).1
    obtain ⟨o', ho', hc', _⟩ := (I1.tuple (show SqT X.K H1 a vs from .inl (.inr ⟨ob, eH⟩))).choose_spec.2.1
    refine ⟨"tuple", "tuple.index", PySem.F.plainAttrs_tuple, PySem.F.slot_tuple_index, PySem.F.type_tuple_index, ⟨o', ho', hc'⟩, fun b eb => ?_, ?_⟩
    ·cases eb; exact ⟨ob, eh, ed⟩
    ·have hA := ha.run cpos pins s1 σ H1 (fun zs H2 => ∃ ρ2, Nx (ct N X) Z0 ρ1 hm H1 env σ H2 ρ2 h1 ∧ zs = [.str (tx x)]) I1 (by
      refine tEvs.bind n1.hr n1.er (r := [.w (.str x)]) (h1 := h1) ?_ fun H2 ρ2 zs n2 rr => ?_
      ·unfold evs
       rw [e3]
       rfl
      ·obtain ⟨y, rfl, ry⟩ := rrs1 rr
       exact ⟨ρ2, n2, by rw [rr_str ry]⟩)
     rw [hs] at hA ⊢
     refine Calls.callWith_builtin (by show (false || (backTo cpos (starEach [] X.env)).any (·.1)) = false; rw [hplain] <;> rfl) (Calls.evalArgs_plain (thn hA fun us s2 k2 => ?_))
     obtain ⟨zs, H2, I2, r2, ρ2, n2, rfl⟩ := k2
     obtain ⟨g1, g2⟩ := txAt_get hn
     have sq2 : SqN H2 a vs := n2.ex.tp a vs ⟨ob, eH, ed⟩
     refine mt_tup_index pins s2 σ H2 (.ref a) _ _ us Q I2 rfl r2 ⟨a, ys.map tx, tx x, n, rfl, rfl, ?_, ?_, fun m hmn => ?_, q9 ρ2 H2 _ (n1.ex.trans n2.ex) n2.hr (show VR _ _ _ _ _ from vr_int_i)⟩
     ·rw [<- strs_vr hy rv]; exact sq2.t
     ·simp_all
     ·rw [List.getElem?_map]
      cases em : ys[m]? with
      | none => intro z; cases z
      | some y =>
       intro z
       have z := tx_inj.mp (Option.some.inj z)
       simp_all
  ·refine wpAny_Call_method_late hbase hfew hline rfl (thn (ho.run pins s σ H (fun v H1 => ∃ ρ1 vs a, v = .ref a ∧ Nx (ct N X) Z0 ρ h H env σ H1 ρ1 hm ∧ H1 a = some (.lst vs) ∧ ¬ Av ρ1 hm Z0 a ∧ VRs (ct N X) H1 (Av ρ1 hm Z0) ws vs) I (tEv.bind hr er e2 fun H1 ρ1 v n1 rr => ?_)) fun v s1 k1 => ?_)
   ·obtain ⟨a, vs, rfl, sq, nz, rv⟩ := seq_vr (rr_w rr)
    exact ⟨ρ1, vs, a, rfl, n1, sq, nz, rv⟩
   ·obtain ⟨v1, H1, I1, r1, ρ1, vs, a, rfl, n1, sq, nz, rv⟩ := k1
    cases (show v = Value.ref a from r1)
    obtain ⟨its, rvv, ⟨o', n', ho', hc', hdn', hd'⟩, hlen⟩ := I1.list (show SqL X.K H1 a vs from .inl (.of sq))
    refine ⟨"list", "list.index", PySem.F.plainAttrs_list, PySem.F.slot_list_index, PySem.F.type_list_index, ⟨o', ho', hc'⟩, fun b eb => ?_, ?_⟩
    ·simp_all
    ·have hA := ha.run cpos pins s1 σ H1 (fun zs H2 => ∃ ρ2, Nx (ct N X) Z0 ρ1 hm H1 env σ H2 ρ2 h1 ∧ zs = [.str (tx x)]) I1 (by
      refine tEvs.bind n1.hr n1.er (r := [.w (.str x)]) (h1 := h1) ?_ fun H2 ρ2 zs n2 rr => ?_
      ·unfold evs
       rw [e3]
       rfl
      ·obtain ⟨y, rfl, ry⟩ := rrs1 rr
       exact ⟨ρ2, n2, by rw [rr_str ry]⟩)
     rw [hs] at hA ⊢
     refine Calls.callWith_builtin (by show (false || (backTo cpos (starEach [] X.env)).any (·.1)) = false; rw [hplain] <;> rfl) (Calls.evalArgs_plain (thn hA fun us s2 k2 => ?_))
     obtain ⟨zs, H2, I2, r2, ρ2, n2, rfl⟩ := k2
     obtain ⟨g1, g2⟩ := txAt_get hn
     have sq2 : H2 a = some (.lst vs) := (n2.ex.fr a _ sq fun z => nz (.inl z)).1
     have ev := strs_vr hy rv
     subst ev
     refine mt_index pins s2 σ H2 (.ref a) _ _ us Q I2 rfl r2 ⟨a, (ys.map tx).map V.str, .str (tx x), n, .str (tx x), rfl, rfl, .inl (.of sq2), rfl, ?_, ?_, ?_, fun m z' hmn hz' => ?_, q9 ρ2 H2 _ (n1.ex.trans n2.ex) n2.hr (show VR _ _ _ _ _ from vr_int_i)⟩
     ·rw [List.all_eq_true]
      intro z hz
      obtain ⟨y, _, rfl⟩ := List.mem_map.mp hz
      rfl
     ·simp_all
     ·show (tx x == tx x) = true
      simp_all
     ·rw [List.getElem?_map, List.getElem?_map] at hz'
      cases em : ys[m]? with
      | none => simp_all
      | some y =>
       rw [em] at hz'
       cases hz'
       exact beq_eq_false_iff_ne.mpr fun z => g2 m hmn (by rw [em, tx_inj.mp z])
end
end Tf
namespace Tf
open PySem L2 PyProof.Rows
theorem start_er {C : Ct} {H : Hp} {Z : Addr -> Prop} {ρ : List Addr} {N : List Str} {n : Nat} : ∀ {as : List R} {vs : List V}, RRs C H Z ρ as vs -> ER C H Z ρ (as.map some ++ List.replicate n none) (L2.start N vs) := by
 intro as vs rr i r e
 have hl := rrs_len rr
 by_cases hi : i < as.length
 ·rw [List.getElem?_append_left (by simpa using hi), List.getElem?_map] at e
  cases e1 : as[i]? with
  | none => simp_all
  | some r' =>
   rw [e1] at e
   cases e
   obtain ⟨v, e2, r2⟩ := rrs_get rr e1
   refine ⟨v, ?_, r2⟩
   unfold L2.start
   rw [List.getElem?_append_left (by simpa [hl] using hi), List.getElem?_map, e2]
   rfl
 ·rw [List.getElem?_append_right (by simpa using hi), List.getElem?_replicate] at e
  simp_all
theorem fn_tf {CX : CXT} {P : Program} {w : World} {K : PySem.W.Frag} {mg : Str -> Option Value} {base : Heap} {k : Nat} {f : Addr} {name qual : Str} {params : Arguments} {body : List Stmt} {scope : Scope} {dV kV doc pm cdv ct oc : Value} {an od : Option Addr}
  {osl : Array (Option Value)} {Ns ps : List Str} {N : Nm} {cl : Cls} {call : Call} {fuel : Nat} {fd : Fd} (lk : K.lookup f = some ⟨oc, od, .func (PySem.W.fnOf name qual params body scope dV kV doc pm an cdv ct), osl⟩) (hcd : PySem.W.codeIn K cdv qual = true) (S : FnScope Ns ps scope)
  (hnp : fd.np = ps.length)
  (hbody : ∀ (A : Around) (outer : List PySem.Env) (s : Shared) (H : Hp) (E : XK), RoomG k (A.deeper (envOfC qual scope s.heap.objs.size f cdv)) ->
   PSs (cxOf CX P w K mg base Ns qual scope f cdv A outer s H E) body (tEx ⟨w, K, N.cls, N.fld, N.own⟩ (execs cl call fuel fd.body))) :
  FnG P w K mg base CX (k + 1) f (PySem.W.fnOf name qual params body scope dV kV doc pm an cdv ct) ps (spR ⟨w, K, N.cls, N.fld, N.own⟩ cl call fuel fd) :=
 fn_g lk hcd S (fun vs H Q E q => by rw [q.len, hnp]) fun A outer s H vs Q E hr q => ⟨_, hbody A outer s H E hr, by
  obtain ⟨Z0, ρ, h, as, hr1, rr, q⟩ := q
  refine ⟨Z0, ρ, h, _, hr1, start_er (n := fd.ns - fd.np) rr, ?_⟩
  unfold runFd at q
  split at q
  case isFalse => exact q.elim
  cases e : execs cl call fuel fd.body (as.map some ++ List.replicate (fd.ns - fd.np) none) h with
  | ex c v => rw [e] at q; exact q.elim
  | no => rw [e] at q; exact q.elim
  | ok o h1 =>
   rw [e] at q
   obtain ⟨fl, env'⟩ := o
   cases fl with
   | nx => exact fun ρ' H' σ' ex hr' er' => q ρ' H' .non ex hr' (by unfold RR VR; rfl)
   | rt r => exact q
   | bk => exact q.elim⟩
end Tf
namespace Tf.P
open PySem L2 PyProof.Rows
section
variable {X : Cx} {N : Nm} {cl : Tf.Cls} {call : Call} {fuel : Nat}
theorem opC_eq (h : cl.eqs = []) {H : Hp} {Q : VK} {x y : V} {C : Ct} {o : Op} (ho : o = .eq ∨ o = .ne) (q : rOp C cl call o x y H Q) : rOpR C o x y H Q := by
 obtain ⟨Z0, ρ, hh, ra, rb, hr, r1, r2, q⟩ := q
 refine ⟨Z0, ρ, hh, ra, rb, hr, r1, r2, ?_⟩
 rcases ho with rfl | rfl
 all_goals
  unfold opC at q
  dsimp only at q
  cases e : clsOf hh ra with
  | some c =>
   rw [e] at q
   rw [h] at q
   exact q.elim
  | none =>
   rw [e] at q
   cases e2 : clsOf hh rb with
   | none => simp_all
   | some c => rw [e2] at q; exact q.elim
theorem v (i : Nat) {x : Str} {pos : Pos} (hN : X.N[i]? = some x := by rfl) (hv : Vis X.env.scope x := by first | exact Or.inl rfl | exact Or.inr (Or.inl rfl) | exact Or.inr (Or.inr rfl)) (hd : (x == ("__debug__" : Str)) = false := by decide)
  (hcd : (x == ("__classdict__" : Str)) = false := by decide) : PE X (.Name x pos) (tEv (ct N X) (ev cl call (.v i))) := se_var hN hv hd hcd
theorem str {x : Str} {l : Tx} {j pos} (h : x.cps.toList = l := by decide +kernel) : PE X (.Constant (.str x) j pos) (tEv (ct N X) (ev cl call (.c (.str l)))) := by grind [se_str]
theorem nn (i : Nat) {n : Int} (h : n = (i : Int) := by rfl) : True := trivial
theorem glob {x y : Str} {l : Tx} {t : Tok} {pos : Pos} (hg : Gl X x) (hm : X.mg x = some (.str y t)) (h : y.cps.toList = l := by decide +kernel) (hd : (x == ("__debug__" : Str)) = false := by decide) : PE X (.Name x pos) (tEv (ct N X) (ev cl call (.c (.str l)))) := by
 subst h
 exact PE.imp (pe_glob hg hm (v := .str y) ⟨t, rfl⟩ hd) fun σ H Q ⟨Z0, ρ, h, env, hr, er, q⟩ => EQ.val (w := .str y.cps.toList) q hr (by unfold VR; rfl)
variable {a b c e o : Expr} {es : List Expr} {ia ib ic ie io : E} {ies : List E} {pos p : Pos}
theorem anil : PA X [] (tEvs (ct N X) (evs cl call [])) := sa_nil
theorem acons (h1 : PE X e (tEv (ct N X) (ev cl call ia))) (h2 : PA X es (tEvs (ct N X) (evs cl call ies))) (hs : starEach (e :: es) X.env = (false, eval e X.env) :: starEach es X.env := by rfl) : PA X (e :: es) (tEvs (ct N X) (evs cl call (ia :: ies))) := sa_cons h1 h2 hs
theorem bin {op : Operator} {oo : Op} (k : OpR X (binaryOp op) (rOpR (ct N X) oo)) (p1 : PE X a (tEv (ct N X) (ev cl call ia))) (p2 : PE X b (tEv (ct N X) (ev cl call ib))) (ho : ∀ a b h, opC cl call oo [a, b] h = opR oo [a, b] h := by intro _ _ _; rfl) : PE X (.BinOp a op b pos) (tEv (ct N X) (ev cl call (.op oo [ia, ib]))) := se_bin k ho p1 p2
theorem bcmp {op : CmpOp} {oo : Op} (k : OpR X (compareOp op) (rOpR (ct N X) oo)) (p1 : PE X a (tEv (ct N X) (ev cl call ia))) (p2 : PE X b (tEv (ct N X) (ev cl call ib))) (ho : ∀ a b h, opC cl call oo [a, b] h = opR oo [a, b] h := by intro _ _ _; rfl) (hm : behindInMarks op b = false := by first | exact nomark _ | with_unfolding_all rfl) : PT X (.Compare a [op] [b] pos) (tEb (ct N X) (ev cl call (.op oo [ia, ib]))) :=
 sb_cmpO (OpR.imp k (rOp_R ho)) hm p1 p2
theorem eq (h0 : cl.eqs = []) (hu : X.A.units + 64 < cLine) (p1 : PE X a (tEv (ct N X) (ev cl call ia))) (p2 : PE X b (tEv (ct N X) (ev cl call ib))) : PE X (.Compare a [.Eq] [b] pos) (tEv (ct N X) (ev cl call (.op .eq [ia, ib]))) := se_cmpO (OpR.imp (o_eqR hu) fun _ _ _ _ q => opC_eq h0 (.inl rfl) q) (nomark _) p1 p2
theorem ne (h0 : cl.eqs = []) (hu : X.A.units + 64 < cLine) (p1 : PE X a (tEv (ct N X) (ev cl call ia))) (p2 : PE X b (tEv (ct N X) (ev cl call ib))) : PE X (.Compare a [.NotEq] [b] pos) (tEv (ct N X) (ev cl call (.op .ne [ia, ib]))) := se_cmpO (OpR.imp (o_neR hu) fun _ _ _ _ q => opC_eq h0 (.inr rfl) q) (nomark _) p1 p2
theorem isN {j pos'} (p1 : PE X a (tEv (ct N X) (ev cl call ia))) : PE X (.Compare a [.Is] [.Constant .none j pos'] pos) (tEv (ct N X) (ev cl call (.op .isN [ia]))) := pe_cmp (sc_isN p1) (nomark _)
theorem notN {j pos'} (p1 : PE X a (tEv (ct N X) (ev cl call ia))) : PE X (.Compare a [.IsNot] [.Constant .none j pos'] pos) (tEv (ct N X) (ev cl call (.op .notN [ia]))) := pe_cmp (sc_notN p1) (nomark _)
theorem bof {x : Env -> Hh -> Res R} (p1 : PE X e (tEv (ct N X) x)) (he : ∀ whole, isTrue e X.env whole = (do let v <- whole; standAt e.pos; holding [v] (truthy v)) := by intro _; rfl) : PT X e (tEb (ct N X) x) := sb_of p1 he
theorem ix (hu : X.A.units + 64 < cLine) (p1 : PE X a (tEv (ct N X) (ev cl call ia))) (p2 : PE X b (tEv (ct N X) (ev cl call ib))) (hs : PlainIx b := by intro _ _; rfl) : PE X (.Subscript a b pos) (tEv (ct N X) (ev cl call (.op .idx [ia, ib]))) := se_ix hu hs p1 p2
theorem callB {id : String} {x : Str} {oo : Op} (k : CallR X (.builtin id) (rCall (ct N X) oo)) (hm : X.mg x = none) (pa : PA X (e :: es) (tEvs (ct N X) (evs cl call ies))) (hg : Gl X x := by rfl) (hv : bootBuiltins x = some (.builtin id) := by rfl) (ho : ∀ rs h, opC cl call oo rs h = opR oo rs h := by intro _ _; rfl)
  (hn : x ≠ "__name__" := by decide) (hdb : (x == ("__debug__" : Str)) = false := by decide) (he : starEach (e :: es) X.env = (false, eval e X.env) :: starEach es X.env := by rfl) (hpl : (backTo pos (starEach es X.env)).any (·.1) = false := by rfl) :
  PE X (.Call (.Name x p) (e :: es) [] pos) (tEv (ct N X) (ev cl call (.op oo ies))) := se_callB k ho hg hm hv pa hn hdb he hpl
theorem callT {T : String} {x : Str} {oo : Op} (k : CallR X (.type T) (rCall (ct N X) oo)) (hm : X.mg x = none) (pa : PA X (e :: es) (tEvs (ct N X) (evs cl call ies))) (hg : Gl X x := by rfl) (hv : bootBuiltins x = some (.type T) := by rfl) (ho : ∀ rs h, opC cl call oo rs h = opR oo rs h := by intro _ _; rfl)
  (hn : x ≠ "__name__" := by decide) (hdb : (x == ("__debug__" : Str)) = false := by decide) (he : starEach (e :: es) X.env = (false, eval e X.env) :: starEach es X.env := by rfl) (hpl : (backTo pos (starEach es X.env)).any (·.1) = false := by rfl) :
  PE X (.Call (.Name x p) (e :: es) [] pos) (tEv (ct N X) (ev cl call (.op oo ies))) := se_callT k ho hg hm hv pa hn hdb he hpl
theorem o_len' : CallR X (.builtin "len") (rCall (ct N X) .len) := fun pins s σ H xs us Q I r t => by
 obtain ⟨Z0, ρ, h, rs, hr, rr, q⟩ := t
 match rs with
 | [] => exact q.elim
 | [r1] =>
  obtain ⟨x, rfl, r2⟩ := rrs1 rr
  exact o_len pins s σ H _ us Q I r ⟨x, Z0, ρ, h, r1, rfl, hr, r2, q⟩
 | _ :: _ :: _ =>
  rw [opR_many (fun x _ _ => by cases x <;> rfl) (fun a b c h => by cases a <;> rfl)] at q
  exact q.elim
theorem lst (pa : PA X es (tEvs (ct N X) (evs cl call ies))) : PE X (.List es pos) (tEv (ct N X) (ev cl call (.op .lst ies))) := se_lst pa
theorem isi {c : Expr} {cv : V} {u : Value} {ts : List Ty} (hm : X.mg "isinstance" = none) (he : PE X e (tEv (ct N X) (ev cl call ie))) (hc : PE X c (tC cv)) (k : ClsV cv u) (ok : IsiOk X.K N u ts) (hg : Gl X "isinstance" := by rfl)
  (h1 : starEach [e, c] X.env = (false, eval e X.env) :: starEach [c] X.env := by rfl) (h2 : starEach [c] X.env = (false, eval c X.env) :: starEach [] X.env := by rfl) (hpl : (backTo pos (starEach [c] X.env)).any (·.1) = false := by rfl) :
  PE X (.Call (.Name "isinstance" p) [e, c] [] pos) (tEv (ct N X) (ev cl call (.op (.isinst ts) [ie]))) := se_isi hg hm he hc k ok h1 h2 hpl
theorem tyN {x : Str} {T : String} (hm : X.mg x = none) (hg : Gl X x := by rfl) (hv : bootBuiltins x = some (.type T) := by rfl) (hn : x ≠ "__name__" := by decide) (hd : (x == ("__debug__" : Str)) = false := by decide) : PE X (.Name x pos) (tC (.ty T)) := pe_bltn hg hm hv rfl hn hd
theorem clN {x : Str} {C : Addr} (hm : X.mg x = some (.ref C)) (hg : Gl X x := by rfl) (hd : (x == ("__debug__" : Str)) = false := by decide) : PE X (.Name x pos) (tC (.ref C)) := pe_glob hg hm rfl hd
theorem call1 {k i : Nat} {f : Addr} {fdt : FuncData} {ps : List Str} {x : Str} (F : Cal X.prog X.w X.K X.mg X.base CX0 N cl fuel call k i f fdt ps) (hr : RoomG k X.A) (hm : X.mg x = some (.ref f)) (hk : PySem.W.keepIn X.K (.ref f) = true) (hb : Binds X.K fdt ps [])
  (ha : PA X (e :: es) (tEvs (ct N X) (evs cl call ies))) (hg : Gl X x := by rfl) (hdb : (x == ("__debug__" : Str)) = false := by decide) (he : starEach (e :: es) X.env = (false, eval e X.env) :: starEach es X.env := by rfl) (hpl : (backTo pos (starEach es X.env)).any (·.1) = false := by rfl) :
  PE X (.Call (.Name x p) (e :: es) [] pos) (tEv (ct N X) (ev cl call (.call .pu i ies))) := se_call F hr hg hm hk hb (fun _ _ _ _ _ _ _ _ h => h.elim) ha hdb he hpl
theorem keep1 {k i : Nat} {f : Addr} {fdt : FuncData} {ps : List Str} {x : Str} (F : Cal X.prog X.w X.K X.mg X.base CX0 N cl fuel call k i f fdt ps) (hr : RoomG k X.A) (hm : X.mg x = some (.ref f)) (hk : PySem.W.keepIn X.K (.ref f) = true) (hb : Binds X.K fdt ps [])
  (ha : PA X (e :: es) (tEvs (ct N X) (evs cl call ies))) (hg : Gl X x := by rfl) (hdb : (x == ("__debug__" : Str)) = false := by decide) (he : starEach (e :: es) X.env = (false, eval e X.env) :: starEach es X.env := by rfl) (hpl : (backTo pos (starEach es X.env)).any (·.1) = false := by rfl) :
  PE X (.Call (.Name x p) (e :: es) [] pos) (tEv (ct N X) (ev cl call (.call .kp i ies))) := se_keep F hr hg hm hk hb (fun _ _ _ _ _ _ _ _ h => h.elim) ha hdb he hpl
theorem one {st : Stmt} {i : S} (p1 : PS X st (tEx (ct N X) (exec cl call fuel i))) : PSs X [st] (tEx (ct N X) (execs cl call fuel [i])) := ss_cons p1 ss_nil
theorem asg {i : Nat} {x : Str} {pos' : Pos} (hN : X.N.Nodup) (p1 : PE X e (tEv (ct N X) (ev cl call ie))) (hi : X.N[i]? = some x := by rfl) (hx : Loc X.env.scope x := by first | exact Or.inl rfl | exact Or.inr rfl) (hs : swapsWith e (some (.Name x pos')) pos.line X.env = pure false := by rfl)
  (hf : X.fn x = true ∨ X.env.scope.names.lookup x = some .local := by first | exact .inl rfl | exact .inr rfl) : PS X (.Assign [.Name x pos'] e pos) (tEx (ct N X) (exec cl call fuel (.asg (.n i) ie))) := by grind [ss_set]
theorem tgt {i : Nat} {x : Str} (hN : X.N.Nodup) (hi : X.N[i]? = some x := by rfl) (hx : Loc X.env.scope x := by first | exact Or.inl rfl | exact Or.inr rfl) (hf : X.fn x = true ∨ X.env.scope.names.lookup x = some .local := by first | exact .inl rfl | exact .inr rfl) : PG X (.Name x pos) (gT (ct N X) (.n i)) := by grind [sg_name]
end
end Tf.P
namespace Tf.P
open PySem L2 PyProof.Rows
section
variable {X : Cx} {N : Nm} {cl : Tf.Cls} {call : Call} {fuel : Nat}
variable {a b c e o elt tg iter : Expr} {es ifs : List Expr} {ia ib ic ie io : E} {ies its cs : List E} {pos p spos : Pos} {scope : Scope} {t : T} {k : IK}
abbrev Blk (X : Cx) (scope : Scope) (F : Cx -> Prop) : Prop := ∀ (s : Shared) (H : Hp) (C : Addr) (cl' : List (Str × Addr)) (fp : List Addr), F (X.blk s H scope (compEnvC scope cl' C X.env) fp)
theorem lc (own : List (Str × Nat)) (hN : X.N.Nodup) (hi : PI X tg iter (iSr (ct N X) t k (evs cl call its)))
  (hg : Blk X scope fun Y => PG Y tg (gT (ct N X) t)) (ht : Blk X scope fun Y => PTs Y ifs (tTs (ct N X) (tests cl call cs))) (he : Blk X scope fun Y => PE Y elt (tEv (ct N X) (ev cl call ie)))
  (ok : blkC X.N X.env.scope scope own = true := by kernel_rfl) (k1 : ∀ i ∈ own.map (·.2), i ∈ slotsT t := by decide) (k2 : ∀ i ∈ slotsT t, i ∈ own.map (·.2) := by decide) (hc : X.calm = true := by rfl) (hs : ∀ x, foldedSetIterable iter X.env x = pure x := by intro _; rfl) :
  PE X (.ListComp elt [⟨tg, iter, ifs, 0⟩] scope pos) (tEv (ct N X) (ev cl call (.lc t k its cs ie))) := se_fr (sf_lc hc hN hi (blkOk_by ok) k1 k2 hg ht he hs) lc_shape
theorem al (p1 : PE X e (tEvF (ct N X) (ev cl call ie))) : PE X e (tEv (ct N X) (ev cl call (.al ie))) := se_al p1
theorem rg1 (hm : X.mg "range" = none) (ha : PA X [a] (tEvs (ct N X) (evs cl call [ia]))) (hg : Gl X "range" := by rfl) (hs : starEach [a] X.env = [(false, eval a X.env)] := by rfl) : PI X tg (.Call (.Name "range" p) [a] [] pos) (iSr (ct N X) t .range (evs cl call [ia])) := by grind [si_range1]
theorem chain {o1 o2 : Op} {op1 op2 : CmpOp} (k1 : OpR X (compareOp op1) (rOpR (ct N X) o1)) (k2 : OpR X (compareOp op2) (rOpR (ct N X) o2)) (pa : PE X a (tEv (ct N X) (ev cl call ia))) (pb : PE X b (tEv (ct N X) (ev cl call ib))) (pc : PE X c (tEv (ct N X) (ev cl call ic)))
  (hm : lastMarks [op1, op2] [b, c] = false := by with_unfolding_all rfl) : PE X (.Compare a [op1, op2] [b, c] pos) (tEv (ct N X) (ev cl call (.chain o1 o2 ia ib ic))) := by grind [se_chain]
structure FldOk (K : PySem.W.Frag) (N : Nm) (m : Str) (fn : Nat) : Prop where
 inj : ∀ n, N.fld n = m -> n = fn
 eq : N.fld fn = m
 cc : ∀ c, N.own c = true -> L2.Cls K (N.cls c) ∧ NoAttr K (N.cls c) m
theorem fld {m : Str} {fn : Nat} (F : FldOk X.K N m fn) (he : PE X o (tEv (ct N X) (ev cl call io))) (hab : attributeBase o m X.env (eval o X.env) = eval o X.env := by rfl) : PE X (.Attribute o m pos) (tEv (ct N X) (ev cl call (.op (.fld fn) [io]))) := se_fld F.inj F.eq F.cc he hab
theorem dict0 {h : Heap} (hb : sysModules < h.objs.size) : DictAt X.w h.objs.size dOb [] [] [] (h.push { cls := .type "dict", data := .dict #[] }) :=
 ⟨#[], 0, [], [], Heap.get?_push_size _ rfl, ⟨rfl, rfl, rfl⟩, rfl, beq_eq_false_iff_ne.mpr (Ne.symm (Nat.ne_of_lt hb)), .nil, .nil, rfl, rfl, rfl, by simp, rfl, Nat.zero_le _⟩
theorem sf_dct0 : PE X (.Dict [] [] pos) (tEvF (ct N X) (ev cl call (.op .dct0 []))) := ⟨fun pins s σ H Q I ⟨Z0, ρ, h, env, hr, er, q⟩ => by
 have hn : H s.heap.objs.size = none := I.hok.fresh (Nat.le_refl _)
 exact wpAny_Dict_empty ⟨.ref s.heap.objs.size, _, I.laid (a := s.heap.objs.size) (o := dictO X.w s.heap.objs.size dOb [] [] []) (t' := s.toks) (fun _ _ q => Heap.get?_push_of_some _ q) (Nat.le_refl _) (dict_ok (dict0 I.big)), rfl,
  EF.newD (ks := []) (us := []) q hr hn (by unfold VRs; rfl) (by unfold VRs; rfl)⟩⟩
theorem exp (p1 : PE X e (tEv (ct N X) (ev cl call ie))) (hs : swapsWith e none pos.line X.env = pure false := by rfl) : PS X (.Expr e pos) (tEx (ct N X) (exec cl call fuel (.exp ie))) := ss_exp p1 hs
theorem sub {i : Expr} {ii : E} {tpos : Pos} (hu : X.A.units + 64 < cLine) (pe : PE X e (tEv (ct N X) (ev cl call ie))) (po : PE X o (tEv (ct N X) (ev cl call io))) (pi : PE X i (tEv (ct N X) (ev cl call ii)))
  (ha : ∀ v, assign (.Subscript o i tpos) X.env v = (do
   let ov <- holding [v] (eval o X.env)
   let iv <- holding [v, ov] (eval i X.env)
   standAt tpos
   holding [v, ov, iv] (setItem ov iv v)
   release [v, ov, iv] []) := by intro _; rfl)
  (hs : swapsWithSole [.Subscript o i tpos] e pos.line X.env = pure false := by rfl) (hw : swappedStores [.Subscript o i tpos] e X.env = pure none := by rfl)
  (h1 : (assignEach [.Subscript o i tpos] X.env).map (·.2) = [assign (.Subscript o i tpos) X.env] := by rfl) : PS X (.Assign [.Subscript o i tpos] e pos) (tEx (ct N X) (exec cl call fuel (.sub io ii ie))) := ss_sub hu pe po pi ha hs hw h1
theorem par {i j : Nat} {x y : Str} {px py pt : Pos} {kt k2 pt2} (hN : X.N.Nodup) (ha : PA X [a, b] (tEvs (ct N X) (evs cl call ies))) (hi : X.N[i]? = some x := by rfl) (hj : X.N[j]? = some y := by rfl) (hij : i ≠ j := by decide)
  (hx : X.env.scope.names.lookup x = some .local := by rfl) (hy : X.env.scope.names.lookup y = some .local := by rfl) (hc : X.calm = true := by rfl)
  (hw : swappedStores [.Tuple [.Name x px, .Name y py] kt pt] (.Tuple [a, b] k2 pt2) X.env = pure (some [x, y]) := by rfl)
  (hs : swapsWithSole [.Tuple [.Name x px, .Name y py] kt pt] (.Tuple [a, b] k2 pt2) pos.line X.env = pure false := by rfl) :
  PS X (.Assign [.Tuple [.Name x px, .Name y py] kt pt] (.Tuple [a, b] k2 pt2) pos) (tEx (ct N X) (exec cl call fuel (.par [i, j] ies))) := ss_par hc hN hi hj hij hx hy ha hw hs
theorem whl {body : List Stmt} {ib : List S} (pc : PT X c (tEb (ct N X) (ev cl call ic))) (pb : PSs X body (tEx (ct N X) (execs cl call fuel ib))) (hp : PassesOwn (model X.prog X.w) X.A X.env X.xe := by exact PassesOwn.never) : PS X (.While c body [] pos) (tEx (ct N X) (exec cl call fuel (.whl ic ib))) := ss_whl hp pc pb
theorem app {i : Nat} {x : Str} {npos apos cpos : Pos} (ha : PA X [e] (tEvs (ct N X) (evs cl call [ie]))) (hN : X.N[i]? = some x := by rfl) (hv : Vis X.env.scope x := by first | exact Or.inl rfl | exact Or.inr (Or.inl rfl) | exact Or.inr (Or.inr rfl)) (hd : (x == ("__debug__" : Str)) = false := by decide) (hcd : (x == ("__classdict__" : Str)) = false := by decide)
  (hbase : attributeBase (.Name x npos) "append" X.env (eval (.Name x npos) X.env) = eval (.Name x npos) X.env := by rfl)
  (hfew : ((backTo cpos (starEach [e] X.env)).all (fun x => !x.1) && (backToKw cpos (keywordEach [] X.env)).all (fun x => x.1.isSome)
   && decide (([e] : List Expr).length + ([] : List Keyword).length + (if ([] : List Keyword).isEmpty then 0 else 1) < 30)) = true := by rfl)
  (hline : (apos.endLine == cpos.line) = true := by rfl) (hs : starEach [e] X.env = (false, eval e X.env) :: starEach [] X.env := by rfl) (hplain : (backTo cpos (starEach [] X.env)).any (·.1) = false := by rfl) :
  PE X (.Call (.Attribute (.Name x npos) "append" apos) [e] [] cpos) (tEv (ct N X) (ev cl call (.mut .append i [ie]))) := se_append hN hv hd hcd ha hbase hfew hline hs hplain
theorem index {apos cpos : Pos} (ho : PE X o (tEv (ct N X) (ev cl call io))) (ha : PA X [e] (tEvs (ct N X) (evs cl call [ie])))
  (hbase : attributeBase o "index" X.env (eval o X.env) = eval o X.env := by rfl)
  (hfew : ((backTo cpos (starEach [e] X.env)).all (fun x => !x.1) && (backToKw cpos (keywordEach [] X.env)).all (fun x => x.1.isSome)
   && decide (([e] : List Expr).length + ([] : List Keyword).length + (if ([] : List Keyword).isEmpty then 0 else 1) < 30)) = true := by rfl)
  (hline : (apos.endLine == cpos.line) = true := by rfl) (hs : starEach [e] X.env = (false, eval e X.env) :: starEach [] X.env := by rfl) (hplain : (backTo cpos (starEach [] X.env)).any (·.1) = false := by rfl) :
  PE X (.Call (.Attribute o "index" apos) [e] [] cpos) (tEv (ct N X) (ev cl call (.op .index [io, ie]))) := se_index ho ha hbase hfew hline hs hplain
theorem meth {kk i fn c : Nat} {f C : Addr} {fdt : FuncData} {ps : List Str} {m : Str} {apos : Pos} (F : Cal X.prog X.w X.K X.mg X.base CX0 N cl fuel call kk i f fdt ps) (hc0 : N.cls c = C) (one : ∀ c' g', look2 cl.meths c' fn = some g' -> c' = c ∧ g' = i) (inj : ∀ n, N.fld n = m -> n = fn) (cc : L2.Cls X.K C) (hm : Meth X.K C m f) (hr : RoomG kk X.A) (hb : Binds X.K fdt ps [])
  (he : PE X o (tEv (ct N X) (ev cl call io))) (ha : PA X (e :: es) (tEvs (ct N X) (evs cl call ies)))
  (hst : starEach (e :: es) X.env = (false, eval e X.env) :: starEach es X.env := by rfl) (hpl : (backTo pos (starEach es X.env)).any (·.1) = false := by rfl)
  {pl : Sem Bool} (ht : eval (.Call (.Attribute o m apos) (e :: es) [] pos) X.env = (do
   let ov <- eval o X.env
   standAt apos.atName
   let (f, first) <- holding [ov] (getMethod ov m pl)
   callWith pos f first (backTo pos (starEach (e :: es) X.env)) (backToKw pos (keywordEach [] X.env))) := by rfl) : PE X (.Call (.Attribute o m apos) (e :: es) [] pos) (tEv (ct N X) (ev cl call (.meth fn io ies))) :=
 se_meth F hc0 one inj he cc hm hr hb (fun _ _ _ _ _ _ _ _ h => h.elim) ha hst hpl ht
end
theorem fnF {P : Program} {w : World} {K : PySem.W.Frag} {mg : Str -> Option Value} {base : Heap} {k : Nat} {f : Addr} {x qual : Str} {st : Stmt} {fdt : FuncData} {Ns ps : List Str} {N : Nm} {cl : Tf.Cls} {call : Call} {fuel : Nat} {fd : Fd} (F : Fun K x qual st f fdt) (S : FnScope Ns ps (defScope st)) (hnp : fd.np = ps.length)
  (hbody : ∀ (cdv : Value) (A : Around) (outer : List PySem.Env) (s : Shared) (H : Hp) (E : XK), RoomG k (A.deeper (envOfC qual (defScope st) s.heap.objs.size f cdv)) ->
   PSs (cxOf CX0 P w K mg base Ns qual (defScope st) f cdv A outer s H E).nox (defBody st) (tEx ⟨w, K, N.cls, N.fld, N.own⟩ (execs cl call fuel fd.body))) :
  FnG P w K mg base CX0 (k + 1) f fdt ps (spR ⟨w, K, N.cls, N.fld, N.own⟩ cl call fuel fd) := by
 obtain ⟨oc, od, kV, doc, pm, an, cdv, ct, osl, rfl, lk, hcd⟩ := F.ex
 exact fn_tf lk hcd S hnp fun A outer s H E hr => (hbody cdv A outer s H E hr).nox
end Tf.P
namespace TfE
open PySem PySem.Spec PyProof.Rows
def diff {K : Type} [DecidableEq K] : List K -> List K -> List K
 | acc, [] => acc
 | acc, x :: xs => diff (if x ∈ acc then acc else acc ++ [x]) xs
section
variable {prog : Program} {w : World} {A : Around} {R : Result -> Shared -> Prop} {I : Addr} {fp wr : List Addr} {G : Array GenState -> Array GenState -> Prop} {n : Nat} {P : Nat -> Value -> Prop} {St : Nat -> Shared -> Prop}
theorem turns (W : WalksS prog w A.in1 I fp wr G n P St) (D : Addr) (out : D ∉ fp) (ks : List Str) (hn : ks.length = n) (few : ks.length + 1 < scanBound) (item : ∀ i v, P i v -> ∃ k t, ks[i]? = some k ∧ v = .str k t) :
  ∀ (m i : Nat) (acc : List Str) (s : Shared), n = i + m -> acc.length <= i -> St i s -> s.heap.SetOf (PySem.strKind prog w) D (fun k => decide (k ∈ acc)) acc.length ->
   (∀ s', Moved (D :: wr) G s s' -> s'.heap.SetOf (PySem.strKind prog w) D (fun k => decide (k ∈ diff acc (ks.drop i))) (diff acc (ks.drop i)).length -> R (.ok (.ret .none)) s') ->
   codeAny (model prog w) A (.builtin "set.update.loop" ⟨[.ref D, .ref I], []⟩) R s := by
 have outW : D ∉ wr := fun z => out (W.sub _ z)
 intro m
 induction m with
 | zero =>
  intro i acc s e1 _ st S fin
  have e2 : i = n := by omega
  subst e2
  refine codeAny_builtin PyProof.Rows.F.entry_set_update_loop ?_
  refine wpAny_bind (W.done s _ _ st fun s2 mv => wpAny_pure (fin s2 (mv.mono fun b hb => List.mem_cons_of_mem _ hb) ?_))
  rw [List.drop_eq_nil_of_le (by omega)]
  obtain ⟨o, es, ep, t, ho, rest⟩ := S
  exact ⟨o, es, ep, t, mv.heap D _ outW ho, rest⟩
 | succ m ih =>
  intro i acc s e1 ha st S fin
  have lt : i < n := by omega
  refine codeAny_builtin PyProof.Rows.F.entry_set_update_loop ?_
  rw [Around.under_plainId PyProof.Rows.F.plain_set_update_loop _]
  refine wpAny_bind (W.item i s _ _ lt st fun v s2 pv st2 mv => ?_)
  obtain ⟨k, t, hk, rfl⟩ := item i v pv
  have S2 : s2.heap.SetOf (PySem.strKind prog w) D (fun k => decide (k ∈ acc)) acc.length := by
   obtain ⟨o, es, ep, tb, ho, rest⟩ := S
   exact ⟨o, es, ep, tb, mv.heap D _ outW ho, rest⟩
  refine wpAny_bind (wpAny_holding ?_)
  unfold setAdd
  refine wpAny_holding (wpAny_bind ((PySem.strKind prog w).pyHash (k := k) (strKind_is _ _ _ _) ?_))
  refine wpAny_setAddHashed_of (knd := PySem.strKind prog w) (s := { s2 with toks := s2.toks + 1 }) (strKind_is _ _ _ _) rfl S2 (by omega) fun g same S3 => ?_
  have hd : ks.drop i = k :: ks.drop (i + 1) := by
   obtain ⟨hi, ek⟩ := List.getElem?_eq_some_iff.mp hk
   rw [<- ek]
   exact List.drop_eq_getElem_cons hi
  have S4 : g.SetOf (PySem.strKind prog w) D (fun k' => decide (k' ∈ (if k ∈ acc then acc else acc ++ [k]))) (if k ∈ acc then acc else acc ++ [k]).length := by
   refine SetOf_congr S3 (fun k' => ?_) ?_
   ·by_cases c : k ∈ acc <;> grind
   ·by_cases c : k ∈ acc <;> simp_all
  refine wpAny_pure ⟨plainId_quiet PyProof.Rows.F.plain_set_update_loop _, ih (i + 1) _ _ (by omega) (by split <;> first | omega | (rw [List.length_append, List.length_singleton]; omega)) (W.frame _ s2 _ _ st2 (Nat.le_succ _) fun b hb o e => ?_) S4 fun s3 mv3 S5 => ?_⟩
  ·exact (same.2 b (fun z => out (by rw [<- z]; exact hb))).trans e
  ·refine fin s3 (Moved.trans W.gtrans ((mv.mono fun b hb => List.mem_cons_of_mem _ hb).then_heap (Nat.le_succ _) fun b o hb e => ?_) mv3) ?_
   ·exact (same.2 b (fun z => hb (by rw [z]; exact List.mem_cons_self))).trans e
   ·rw [hd]
    exact S5
end
abbrev eset (led : Bool) : Obj := { cls := .type "set", dict := none, data := .set #[] 0 (.fresh 0 0 led) }
section
variable {prog : Program} {w : World} {A : Around} {E : Value -> Shared -> Prop} {s : Shared}
theorem text_at : ∀ {us : List Value} {ks : List Str}, StrsAre us ks -> ∀ (i : Nat) (v : Value), us[i]? = some v -> ∃ k t, ks[i]? = some k ∧ v = .str k t
 | _, _, .nil, i, v, h => by simp_all
 | _, _, .cons k t r, 0, v, h => by
  simp at h
  exact ⟨k, t, rfl, h.symm⟩
 | _, _, .cons k t r, i + 1, v, h => by
  obtain ⟨k', t', a, b⟩ := text_at r i v (by simpa using h)
  simp_all
set_option maxRecDepth 100000 in
set_option maxHeartbeats 3200000 in
theorem set_texts {l : Addr} {items : Array Value} {ks : List Str} {Q : Value -> Shared -> Prop} (calm : A.handled = none) (il : s.heap.IsList l items) (ts : StrsAre items.toList ks) (few : ks.length + 1 < scanBound)
  (q : ∀ (g : Heap) (tk : Nat), g.SetOf (PySem.strKind prog w) s.heap.objs.size (fun k => decide (k ∈ diff [] ks)) (diff [] ks).length -> (∀ b o, b < s.heap.objs.size -> s.heap.get? b = some o -> g.get? b = some o) -> Q (.ref s.heap.objs.size) { s with heap := g, toks := tk }) :
  wpAny (model prog w) A (call (.type "set") [.ref l]) Q E s := by
 obtain ⟨c, tl, hmro⟩ := PySem.F.called_set.mro
 have hmade := PySem.F.called_set.made
 have hsub := PySem.F.called_set.sub
 refine wpAny_call (codeAny_of_tree ?_)
 show wpAny _ _ (callAny (.type "set") _) _ _ _
 refine wpAny_pure ⟨Code.quiet_builtin _ (by decide +kernel), codeAny_builtin PySem.F.entry_type_call ?_⟩
 rw [Around.under_plain (weight_type_call_type "set" [.ref l] []) rfl]
 have p1 := PySem.F.called_set.notType
 have p2 := PySem.F.called_set.canCreate
 have p3 := PySem.F.typeCall_set_1 (.ref l)
 repeat (any_goals (first | assumption | wp_step))
 refine codeAny_mono (code_set_new_1 (.ref l) (E := E) (Q₁ := fun ob t => ∃ led : Bool, ob = .ref s.heap.objs.size ∧ t = { s with heap := s.heap.push (eset led) }) fun led => ⟨led, rfl, rfl⟩) fun r t hr => ?_
 cases r with
 | error e => exact hr
 | ok fl =>
  cases fl with
  | ret ob =>
   obtain ⟨led, rfl, rfl⟩ := hr
   have hS : (s.heap.push (eset led)).get? s.heap.objs.size = some (eset led) := Heap.get?_push_size _ rfl
   have hT : Shared.TypeIs { s with heap := s.heap.push (eset led) } (.ref s.heap.objs.size) "set" := ⟨_, hS, rfl⟩
   have p4 := PySem.F.called_set.init.lookup
   have p5 := PySem.F.called_set.init.bind (.ref s.heap.objs.size)
   repeat (any_goals (first | assumption | wp_step))
   refine codeAny_mono (codeAny_call_builtin (R := wants (fun r t => r = .none ∧ ∃ g tk, t = { s with heap := g, toks := tk } ∧ g.SetOf (PySem.strKind prog w) s.heap.objs.size (fun k => decide (k ∈ diff [] ks)) (diff [] ks).length ∧
     (∀ b o, b < s.heap.objs.size -> s.heap.get? b = some o -> g.get? b = some o)) E) PySem.F.called_set.init.plain PySem.F.entry_set_init (check_set_init_1 hT ?_)) fun r2 t2 hr2 => ?_
   ·obtain ⟨ol, hol, hcl, nl, hdl⟩ := il
    obtain ⟨c1, d1, da1, sl1⟩ := ol
    simp only at hcl hdl
    subst hcl; subst hdl
    have ho2 : (s.heap.push (eset led)).get? l = some { cls := .type "list", dict := d1, data := .seq items nl, slots := sl1 } := Heap.get?_push_of_some _ hol
    have p6 := PySem.F.sub_list_set
    have p7 := PySem.F.sub_list_frozenset
    have p8 : (Value.type "list" == Value.type "dict") = false := by decide
    have il2 : (s.heap.push (eset led)).IsList l items := ⟨_, ho2, rfl, nl, rfl⟩
    unfold Builtin.«set.__init__» noKeywords Builtin.Frozenset.updateFrom
    generalize hPI : pyIter = PI
    wp_walk
    subst hPI
    refine wpAny_pyIter_list il2 (wpAny_bind (wpAny_runValue ?_))
    have lt : l < s.heap.objs.size := Heap.lt_size hol
    have c3 : A.in1.in1.in1.handled = none := by simp [calm]
    have ne : l ≠ (s.heap.push (eset led)).objs.size := by rw [Heap.size_push]; exact Nat.ne_of_lt (Nat.lt_succ_of_lt lt)
    have out : s.heap.objs.size ∉ [(s.heap.push (eset led)).objs.size, l] := by
     rw [Heap.size_push]
     intro z
     rcases List.mem_cons.mp z with z | z
     ·exact absurd z (Nat.ne_of_lt (Nat.lt_succ_self _))
     ·exact absurd (List.mem_singleton.mp z) (Nat.ne_of_gt lt)
    have hlen : ks.length = items.size := by rw [<- StrsAre.len_eq ts, Array.length_toList]
    refine turns ((Walks.list c3 _ l ne items).toS) s.heap.objs.size out ks hlen few (fun i v hv => text_at ts i v (by rw [Array.getElem?_toList]; exact hv)) items.size 0 [] _ (by omega) (Nat.le_refl _) ⟨⟨_, Heap.get?_push_size _ rfl, rfl, rfl⟩, (il2.push _)⟩ ?s0 ?fin
    case s0 =>
     have hg : ((s.heap.push (eset led)).push { cls := .type "list_iterator", data := .fields #[.ref l, .int 0 0] }).get? s.heap.objs.size = some (eset led) := Heap.get?_push_of_some _ hS
     exact SetOf_congr ((setObjOf_fresh (knd := PySem.strKind prog w) led).setOf hg (by unfold scanBound; omega)) (fun _ => by simp) rfl
    case fin =>
     intro t mv hS'
     obtain ⟨g, ge, dr, tk, os⟩ := t
     have e1 : ge = s.gens := mv.gens
     have e2 : dr = s.drawn := mv.drawn
     have e3 : os = s.os := mv.os
     subst e1 e2 e3
     show wpAny _ _ _ _ _ _
     refine wpAny_pure ?_
     show wpAny _ _ (ret Value.none) _ _ _
     refine wpAny_pure ⟨rfl, g, tk, rfl, by rw [List.drop_zero] at hS'; exact hS', fun b o hb e => ?_⟩
     refine mv.heap b o (fun z => ?_) (Heap.get?_push_of_some _ (Heap.get?_push_of_some _ e))
     rcases List.mem_cons.mp z with z | z
     ·exact absurd z (Nat.ne_of_lt hb)
     ·have z := List.mem_singleton.mp z
      rw [Heap.size_push] at z
      exact absurd z (Nat.ne_of_lt (Nat.lt_succ_of_lt hb))
   ·cases r2 with
    | error e => exact hr2
    | ok fl2 =>
     cases fl2 with
     | ret r =>
      obtain ⟨rfl, g, tk, rfl, S, hk⟩ := hr2
      repeat (any_goals (first | assumption | wp_step))
      exact q _ _ S hk
     | _ => exact hr2.elim
  | _ => exact hr.elim
end
end TfE
namespace Tf.P
open PySem L2 PyProof.Rows
theorem tx_mem {x : Tx} {acc : List Tx} : tx x ∈ acc.map tx ↔ x ∈ acc := by
 rw [List.mem_map]
 exact ⟨fun ⟨y, h, e⟩ => by rw [<- tx_inj.mp e]; exact h, fun h => ⟨x, h, rfl⟩⟩
theorem diff_tx : ∀ (ys acc : List Tx), TfE.diff (acc.map tx) (ys.map tx) = (diffT acc ys).map tx
 | [], acc => rfl
 | y :: ys, acc => by
  rw [List.map_cons]
  unfold TfE.diff diffT
  by_cases h : y ∈ acc
  ·rw [if_pos h, if_pos (tx_mem.mpr h)]
   exact diff_tx ys acc
  ·rw [if_neg (fun z => h (tx_mem.mp z))]
   have := diff_tx ys (acc ++ [y])
   simp_all
section
variable {X : Cx} {N : Nm} {cl : Tf.Cls} {call : Call}
theorem lenSet {a : Expr} {ia : E} {p p2 q0 pos : Pos} (hm : X.mg "len" = none) (hm2 : X.mg "set" = none) (ha : PE X a (tEv (ct N X) (ev cl call ia))) (hg : Gl X "len" := by rfl) (hg2 : Gl X "set" := by rfl) (hc : X.calm = true := by rfl)
  (na : starEach [a] X.env = (false, eval a X.env) :: starEach [] X.env := by rfl) : PE X (.Call (.Name "len" p) [.Call (.Name "set" p2) [a] [] q0] [] pos) (tEv (ct N X) (ev cl call (.op .lenSet [ia]))) := by
 refine ⟨fun pins s σ H Q I t => ?_⟩
 obtain ⟨Z0, ρ, h, env, hr, er, q⟩ := tEv_op1 (fun _ _ => rfl) t
 refine Call_ (ld_blt I hg hm boot_len (callWith_builtin1 (args_cons (Call_ (ld_blt I hg2 hm2 boot_set (callWith_type1 (args_cons (thn (ha.run pins s σ H _ I ⟨Z0, ρ, h, env, hr, er, q⟩) fun v s1 ⟨x, H1, I1, r1, q1⟩ => args_nil ?_) na) na rfl))) rfl) rfl rfl))
 obtain ⟨Z1, ρ1, h1, r, hr1, rr, q1⟩ := q1
 cases r with
 | loc n => exact q1.elim
 | w w =>
  obtain ⟨u, e, q1⟩ := q1.w1
  have e : op_lenSet [w] = some u := e
  cases w with
  | lst ws =>
   have e : (match strsOf ws with | some ys => if ys.length < 4000 then some (W.int (diffT [] ys).length) else none | none => none) = some u := e
   cases ey : strsOf ws with
   | none => rw [ey] at e; cases e
   | some ys =>
    rw [ey] at e
    dsimp only at e
    split at e
    case isFalse => cases e
    rename_i few
    cases e
    obtain ⟨l, vs, rfl, el, _, rv⟩ := seq_vr (rr_w rr)
    cases (show v = Value.ref l from r1)
    obtain ⟨its, rel, pl, _⟩ := I1.list (.of el)
    rw [strs_vr ey rv] at rel
    have sa := strsAre_of rel
    refine TfE.set_texts (ks := ys.map tx) (I1.ok.hd hc) pl.isList (by simpa using sa) (by rw [List.length_map]; unfold scanBound; omega) fun g tk S kp => args_nil ?_
    have el2 : (TfE.diff [] (ys.map tx)).length = (diffT [] ys).length := by
     have := diff_tx ys []
     grind [List.length_map]
    rw [el2] at S
    obtain ⟨o, es, ep, tb, ho, hex, hd, _, _, _, hf, hn⟩ := S
    have I2 : Inv X pins σ H1 { s1 with heap := g, toks := tk } := I1.kept fun b ob e => kp b ob (Heap.lt_size e) e
    have small : (diffT [] ys).length <= 4000 := by
     have le : ∀ (zs acc : List Tx), (diffT acc zs).length <= acc.length + zs.length := by
      intro zs
      induction zs with
      | nil => intro acc; exact Nat.le_refl _
      | cons z zs ih =>
       intro acc
       unfold diffT
       split
       ·have := ih acc; simp; omega
       ·have := ih (acc ++ [z]); simp at this ⊢; omega
     have := le ys []
     simp at this
     omega
    exact call_len_set ho hex hd hf (by rw [hn] <;> omega) ⟨.int (diffT [] ys).length, H1, I2.tok _, ⟨_, by rw [hn]⟩, q1.val hr1 vr_int_i⟩
  | _ => cases e
end
end Tf.P
namespace Tf
open PySem L2 PyProof.Rows
abbrev NoE : Value -> Shared -> Prop := fun _ _ => False
abbrev testsOf (ifs : List Expr) (env : PySem.Env) : Sem Bool := forIn ifs true fun c r => if r = true then do let ok <- isTrue c env (eval c env); pure (.yield ok) else pure (.yield r)
def TurnIs (e : Expr) (n : Nat) (tg : Expr) (ip : Pos) (ifs : List Expr) (it acc : Value) (env : PySem.Env) (rest : Sem Unit) : Prop :=
 compTurn e n it acc env = (do
  standAt ip
  match <- pyNext it with
  | none => pure (.done .next)
  | some u =>
   letOwnedTupleGo tg it u
   assign tg env u
   let b <- testsOf ifs env
   if b then rest
   again (.compLoop e n it acc env))
section
variable {prog : Program} {w : World} {A : Around}
theorem loop_rule {kx vx : Expr} {gens : List Comprehension} {sc : Scope} {ep : Pos} {n : Nat} {tg : Expr} {ip : Pos} {ifs : List Expr} {it acc : Value} {env : PySem.Env} {rest : Sem Unit} (ht : TurnIs (.DictComp kx vx gens sc ep) n tg ip ifs it acc env rest) {R : Result -> Shared -> Prop} (I : Nat -> Shared -> Prop)
  (turn : ∀ m s, I m s -> wpAny (model prog w) A (pyNext it) (fun r s1 => match r with
   | none => R (.ok .next) s1
   | some u => wpAny (model prog w) A (letOwnedTupleGo tg it u) (fun _ s2 => wpAny (model prog w) A (assign tg env u) (fun _ s3 => wpAny (model prog w) A (testsOf ifs env) (fun b s4 =>
     if b = true then wpAny (model prog w) A rest (fun _ s5 => ∃ k, k < m ∧ I k s5) NoE s4 else ∃ k, k < m ∧ I k s4) NoE s3) NoE s2) NoE s1) NoE s)
  (m : Nat) {s : Shared} (h : I m s) : codeAny (model prog w) A (.compLoop (.DictComp kx vx gens sc ep) n it acc env) R s := by
 refine codeAny_loop rfl I (fun m s hI => ?_) m h
 refine wpAny_noted ?_
 rw [show compTurn (.DictComp kx vx gens sc ep) n it acc env = _ from ht]
 refine wpAny_bind (wpAny_standAt (wpAny_bind (thnF (turn m s hI) fun r s1 h1 => ?_)))
 cases r with
 | none => exact wpAny_pure h1
 | some u =>
  refine wpAny_bind (thnF h1 fun _ s2 h2 => wpAny_bind (thnF h2 fun _ s3 h3 => wpAny_bind (thnF h3 fun b s4 h4 => ?_)))
  cases b with
  | false => exact wpAny_pure ⟨rfl, h4⟩
  | true => exact wpAny_bind (thnF h4 fun _ s5 h5 => wpAny_pure ⟨rfl, h5⟩)
end
structure PR (X : Cx) (vs : List Nat) (rest : Sem Unit) (t : Sg -> Hp -> (Hp -> Prop) -> Prop) : Prop where
 run : ∀ (pins : List (Addr × Obj)) (s : Shared) (σ : Sg) (H : Hp) (Q : Hp -> Prop), Inv X pins σ H s -> t σ H Q -> wpAny (model X.prog X.w) X.A rest (fun _ s' => ∃ H', Inv X pins (L2.wipe σ vs) H' s' ∧ Q H') NoE s
def Turning (J : It) (g : TG) (tt : TT) (tr : Sg -> Hp -> (Hp -> Prop) -> Prop) (vs : List Nat) (σ : Sg) (H0 : Hp) (Qd : Hp -> Prop) : Prop :=
 ∃ W : Nat -> Nat -> Hp -> Prop, (∃ m, W 0 m H0) ∧ ∀ i m H, W i m H ->
  (J.stop i H ∧ Qd H) ∨ (J.go i H ∧ ∃ Nn : Hp -> Prop, (∀ H', Nn H' -> ∃ m', m' < m ∧ W (i + 1) m' H') ∧ ∀ x H', J.yld i H x H' -> g x (L2.wipe σ vs) H' fun σ2 H2 => L2.wipe σ2 vs = L2.wipe σ vs ∧ tt σ2 H2 fun b H3 =>
   if b = true then tr σ2 H3 Nn else Nn H3)
section
variable {X : Cx}
theorem clause {kx vx : Expr} {gens : List Comprehension} {sc : Scope} {ep : Pos} {n : Nat} {tg : Expr} {ip : Pos} {ifs : List Expr} {it : Addr} {acc : Value} {rest : Sem Unit} {J : It} {fp : List Addr} {tn : Nat -> Heap -> Prop} {g : TG} {tt : TT} {tr : Sg -> Hp -> (Hp -> Prop) -> Prop} {vs ws : List Nat} {pins : List (Addr × Obj)} {s : Shared} {σ : Sg} {H : Hp} {Qd : Hp -> Prop}
  (hc : X.calm = true) (hx : X.xe = NoE) (ht : TurnIs (.DictComp kx vx gens sc ep) n tg ip ifs (.ref it) acc X.env rest) (hg : PG X tg g) (htt : PTs X ifs tt) (hr : PR X ws rest tr) (hw : ∀ i ∈ ws, i ∈ vs)
  (T : Turn X.prog X.w X.K tg J fp it tn) (I : Inv X pins (L2.wipe σ vs) H s) (st : tn 0 s.heap) (f : ∀ b ∈ fp, FpOk X pins H b) (q : Turning J g tt tr vs σ H Qd) :
  codeAny (model X.prog X.w) X.A (.compLoop (.DictComp kx vx gens sc ep) n (.ref it) acc X.env) (fun r s' => match r with
   | .ok _ => ∃ H', Inv X pins (L2.wipe σ vs) H' s' ∧ (∀ b ∈ fp, H' b = none) ∧ Qd H'
   | .error _ => False) s := by
 obtain ⟨W, ⟨m0, w0⟩, turn⟩ := q
 have stat : ∀ {H' : Hp}, (∀ b ∈ fp, H' b = none) -> ∀ b ∈ fp, FpOk X pins H' b := fun hn b hb => ⟨hn b hb, (f b hb).2⟩
 refine loop_rule ht (fun m s' => ∃ i H', Inv X pins (L2.wipe σ vs) H' s' ∧ tn i s'.heap ∧ (∀ b ∈ fp, H' b = none) ∧ W i m H') ?_ m0 ⟨0, H, I, st, fun b hb => (f b hb).1, w0⟩
 rintro m s1 ⟨i, H1, I1, st1, n1, w1⟩
 rcases turn i m H1 w1 with ⟨stop, qq⟩ | ⟨go, Nn, hNn, step⟩
 ·refine thnF (T.done X rfl rfl rfl hc i pins s1 _ H1 NoE I1 (stat n1) st1 stop) fun r s2 ⟨er, I2⟩ => ?_
  subst er
  exact ⟨H1, I2, n1, qq⟩
 ·refine thnF (T.item X rfl rfl rfl hc i pins s1 _ H1 NoE I1 (stat n1) st1 go) fun r s2 ⟨u, er, h2⟩ => ?_
  subst er
  refine thnF h2 fun _ s3 ⟨x, H3, I3, rx, y3, st3, n3⟩ => ?_
  have I3' := I3.pinned (stat n3) (T.obj _ _ st3)
  have pg := hg.run _ s3 _ H3 x u _ I3' rx (step x H3 y3)
  rw [hx] at pg
  refine thnF pg fun _ s4 ⟨σ4, H4, I4, ew, q4⟩ => ?_
  have pt := htt.run _ s4 σ4 H4 _ I4 q4
  rw [hx] at pt
  refine thnF pt fun b s5 ⟨H5, I5, q5⟩ => ?_
  have fin : ∀ {σ' : Sg} {s' : Shared} {H' : Hp}, Inv X (pins ++ pinsAt fp s3.heap) σ' H' s' -> σ'.length = σ4.length -> (∀ (j : Nat) v, (L2.wipe σ4 vs)[j]? = some (some v) -> σ'[j]? = some (some v)) -> Nn H' ->
    ∃ k, k < m ∧ ∃ i H', Inv X pins (L2.wipe σ vs) H' s' ∧ tn i s'.heap ∧ (∀ b ∈ fp, H' b = none) ∧ W i k H' := fun {σ' s' H'} I' hl hk nn => by
   obtain ⟨m', hm, w'⟩ := hNn H' nn
   have stay : ∀ b ∈ fp, ∀ o, s3.heap.get? b = some o -> s'.heap.get? b = some o ∧ H' b = none := fun b hb o eo => by
    have z := I'.pin (b, o) (List.mem_append_right _ (List.mem_append_right _ (mem_pinsAt hb eo)))
    grind
   refine ⟨m', hm, i + 1, H', I'.unpinned.weak ?_ ?_, T.keep _ _ _ st3 fun b hb o eo => (stay b hb o eo).1, fun b hb => ?_, w'⟩
   ·rw [<- ew, wipe_length]; exact hl.symm
   ·simp_all
   ·obtain ⟨o, eo, _⟩ := T.obj _ _ st3 b hb
    exact (stay b hb o eo).2
  cases b with
  | false =>
   rw [if_neg (by decide)]
   exact fin I5 rfl (fun j v ej => (wipe_some ej).1) q5
  | true =>
   refine thnF (hr.run _ s5 σ4 H5 _ I5 q5) fun _ s6 ⟨H6, I6, q6⟩ => ?_
   refine fin I6 (wipe_length _ _) (fun j v ej => ?_) q6
   obtain ⟨e1, e2⟩ := wipe_some ej
   rw [L2.wipe_out fun z => e2 (hw j z)]
   omega
end
section
variable {kx vx tg iter tg1 iter1 : Expr} {ifs ifs1 : List Expr} {scope : Scope} {pos : Pos} {it acc : Value} {D : Addr} {env : PySem.Env}
end
def DPut (w : World) (C : Ct) (D : Addr) (y z : V) (H : Hp) (Q : Hp -> Prop) : Prop :=
 ∃ (Z : Addr -> Prop) (x : W) (ks : List W) (kv vv : List V), IsD H w D ks kv vv ∧ VRs C H Z ks kv ∧ VR C H Z x y ∧ keyOk 8 x = true ∧ ks.length < sizeLine ∧
  (∀ j k, ks[j]? = some k -> weq k x = true -> (∀ i k', i < j -> ks[i]? = some k' -> weq k' x = false) -> ∀ ob, Q (upd H D (dictO w D ob ks kv (vv.set j z)))) ∧
  ((∀ k ∈ ks, weq k x = false) -> ∀ ob, Q (upd H D (dictO w D ob (ks ++ [x]) (kv ++ [y]) (vv ++ [z]))))
def tr1 (w : World) (C : Ct) (D : Addr) (tk tv : TE) : Sg -> Hp -> (Hp -> Prop) -> Prop := fun σ H Q => tk σ H fun y H4 => tv σ H4 fun z H5 => DPut w C D y z H5 Q
section
variable {X : Cx} {N : Nm}
theorem set_put {pins : List (Addr × Obj)} {σ : Sg} {H : Hp} {s : Shared} (hu : X.A.units + 64 < cLine) (I : Inv X pins σ H s) {D : Addr} {y z : V} {u v : Value} (ry : RelV y u) (rz : RelV z v) {Q : Hp -> Prop} (q : DPut X.w (ct N X) D y z H Q) :
  wpAny (model X.prog X.w) X.A (dictSet D u v) (fun _ s' => ∃ H', Inv X pins σ H' s' ∧ Q H') NoE s := by
 obtain ⟨Z, x, ks, kv, vv, e, hk, hx, ok, hz, q1, q2⟩ := q
 obtain ⟨o, es, ep, ws, zs, d⟩ := dict_is (N := N) I e hk
 have kx := VR.key (N := N) I ok hx ry
 have hsz := d.size
 refine TfD.set_nk (by omega) kx d.d (by rw [hsz]; exact d.sz) fun r h' hr hs => ?_
 obtain ⟨same, o', es', ep', ho', hex', hd', hl'⟩ := hs
 have keep : ∀ b ob, b ≠ D -> s.heap.get? b = some ob -> h'.get? b = some ob := by simp_all
 rcases hr with ⟨rfl, hn⟩ | ⟨j, rfl, hj⟩
 ·have no := told_no d.ok ok hn
  refine ⟨_, I.write (x := D) (e := D) (by obtain ⟨_, e⟩ := e; rw [e]; trivial) (.inl rfl) keep ⟨_, ho'⟩ (dict_ok ?_), q2 no o'⟩
  refine ⟨es', ep', ws ++ [u], zs ++ [v], ho', hex', hd', d.d.sm, d.vk.append (.cons ry .nil), d.vz.append (.cons rz .nil), by simp [d.lk], by simp [d.lz], ?_, ?_, ?_, ?_⟩
  ·rw [<- ents_app d.lk d.lz, <- d.el]; exact hl'
  ·rw [List.map_append, List.nodup_append]
   exact ⟨d.nd, by simp, fun k hk2 k2 h2 g => by
    have : k2 = nk x := by simp_all
    subst this
    subst g
    exact hn hk2⟩
  ·rw [List.all_append, d.ok]; simp [ok]
  ·simp; omega
 ·obtain ⟨k, e1, e2, e3⟩ := told_at d.ok ok d.nd hj
  refine ⟨_, I.write (x := D) (e := D) (by obtain ⟨_, e⟩ := e; rw [e]; trivial) (.inl rfl) keep ⟨_, ho'⟩ (dict_ok ?_), q1 j k e1 e2 e3 o'⟩
  refine ⟨es', ep', ws, zs.set j v, ho', hex', hd', d.d.sm, d.vk, vals_set d.vz rz, d.lk, by simp [d.lz], ?_, d.nd, d.ok, d.sz⟩
  rw [<- ents_set d.lk d.lz, <- d.el]; exact hl'
end
end Tf
namespace Tf
open PySem L2 PyProof.Rows
theorem still_app {h : Hh} : ∀ {a b : List (Nat × O)}, still h (a ++ b) = true -> still h a = true ∧ still h b = true
 | [], b, q => ⟨rfl, q⟩
 | (l, o) :: r, b, q => by
  rw [List.cons_append] at q
  unfold still at q
  rw [Bool.and_eq_true] at q
  obtain ⟨a1, b1⟩ := still_app q.2
  refine ⟨?_, b1⟩
  unfold still
  simp_all
structure ExD (D : Addr) (Z0 Z1 : Addr -> Prop) (ρ : List Addr) (h : Hh) (H : Hp) (ρ' : List Addr) (h' : Hh) (H' : Hp) : Prop where
 z : ExZ Z0 Z1 ρ h H ρ' h' H'
 fr : ∀ a o, a ≠ D -> H a = some o -> ¬ Live ρ h a -> H' a = some o ∧ ¬ Live ρ' h' a
section
variable {D : Addr} {H H' H2 : Hp} {Z0 Z1 Z2 : Addr -> Prop} {ρ ρ' ρ2 : List Addr} {h h' h2 : Hh}
theorem ExD.trans (x : ExD D Z0 Z1 ρ h H ρ' h' H') (y : ExD D Z1 Z2 ρ' h' H' ρ2 h2 H2) : ExD D Z0 Z2 ρ h H ρ2 h2 H2 := ⟨x.z.trans y.z, fun a o n e l => by
 obtain ⟨e1, l1⟩ := x.fr a o n e l
 exact y.fr a o n e1 l1⟩
theorem ExD.refl : ExD D Z0 Z0 ρ h H ρ h H := ⟨.refl, fun _ _ _ e l => ⟨e, l⟩⟩
theorem Ex.d (k : ∀ b, Z1 b -> Z0 b ∨ H b = none) (x : Ex ρ h H ρ' h' H') : ExD D Z0 Z1 ρ h H ρ' h' H' := ⟨x.z k, fun a o _ e l => x.fr a o e l⟩
theorem ExD.ex (x : ExD D Z0 Z1 ρ h H ρ' h' H') (e : H D = none) : Ex ρ h H ρ' h' H' := ⟨x.z.pre, fun a o q l => x.fr a o (fun n => by rw [n, e] at q; cases q) q l, x.z.tp, x.z.xp⟩
end
section
variable {cl : Cls} {call : Call}
abbrev AtT := List W -> List Addr -> Hh -> Hp -> Prop
structure AtOk (C : Ct) (Z0 : Addr -> Prop) (D : Addr) (At : AtT) : Prop where
 ex : ∀ xs ρ h H ρ' h' H', HR C (Zp Z0 D) ρ h H -> Ex ρ h H ρ' h' H' -> At xs ρ h H -> At xs ρ' h' H'
def RestOk (C : Ct) (Z0 : Addr -> Prop) (D : Addr) (At : AtT) (total : List W) (K : Env -> Hh -> Res (List W)) (tr : Sg -> Hp -> (Hp -> Prop) -> Prop) : Prop :=
 ∀ (σ : Sg) (ρ : List Addr) (h : Hh) (H : Hp) (env : Env) (done ys rest : List W) (h' : Hh) (Q : Hp -> Prop), HR C (Zp Z0 D) ρ h H -> At done ρ h H -> ER C H (Av ρ h (Zp Z0 D)) ρ env σ -> K env h = .ok ys h' -> done ++ ys ++ rest = total ->
  (∀ ρ' H', ExD D (Zp Z0 D) (Zp Z0 D) ρ h H ρ' h' H' -> HR C (Zp Z0 D) ρ' h' H' -> At (done ++ ys) ρ' h' H' -> Q H') -> tr σ H Q
end
end Tf
namespace Tf
open PySem L2 PyProof.Rows
section
variable {cl : Cls} {call : Call} {C : Ct} {Z0 : Addr -> Prop} {D : Addr}
def trL (D : Addr) (te : TE) : Sg -> Hp -> (Hp -> Prop) -> Prop := fun σ H Q => te σ H fun y H7 => ∃ acc, H7 D = some (.lst acc) ∧ acc.length < sizeLine ∧ Q (L2.upd H7 D (.lst (acc ++ [y])))
theorem updZ_x {ρ : List Addr} {h : Hh} {H : Hp} {o u : HO} (e : H D = some o) (nt : NoT o) : ExD D (Zp Z0 D) (Zp Z0 D) ρ h H ρ h (L2.upd H D u) where
 z := {
  pre := ⟨[], by simp⟩
  kp := fun a v q n => ⟨by
   have ne : a ≠ D := by simp_all
   rw [upd_ne ne]; exact q, n⟩
  tp := fun a xs s => sqT_upd e nt s
  xp := fun a ob φ s => by rw [upd_ne (fun z => by subst z; rw [e] at s; exact (nt []).2 _ _ (Option.some.inj s))]; exact s }
 fr := fun a v ne q l => ⟨by rw [upd_ne ne]; exact q, l⟩
def AtD (C : Ct) (Z0 : Addr -> Prop) (D : Addr) : AtT := fun xs ρ h H => ∃ ks us kv vv, pairsPut xs [] [] = some (ks, us) ∧ IsD H C.w D ks kv vv ∧ VRs C H (Av ρ h (Zp Z0 D)) ks kv ∧ VRs C H (Av ρ h (Zp Z0 D)) us vv
theorem atD_ok : AtOk C Z0 D (AtD C Z0 D) := ⟨fun xs ρ h H ρ' h' H' hr ex ⟨ks, us, kv, vv, p, ⟨ob, e⟩, r1, r2⟩ => ⟨ks, us, kv, vv, p, ⟨ob, (ex.fr D _ e (hr.notLive (.inr rfl))).1⟩, VRs.ex ex r1, VRs.ex ex r2⟩⟩
theorem pairs_cat : ∀ (n : Nat) (a b : List W) (ks us ks' us' : List W), a.length <= n -> pairsPut a ks us = some (ks', us') -> pairsPut (a ++ b) ks us = pairsPut b ks' us'
 | _, [], b, ks, us, ks', us', _, e => by
  rw [pairsPut] at e
  simp_all
 | _, [x], b, ks, us, ks', us', _, e => by rw [pairsPut] at e; cases e
 | 0, _ :: _ :: _, _, _, _, _, _, h, _ => by simp_all
 | n + 1, k :: v :: r, b, ks, us, ks', us', h, e => by
  rw [pairsPut] at e
  rw [List.cons_append, List.cons_append, pairsPut]
  split at e
  ·rename_i hk
   rw [if_pos hk]
   exact pairs_cat n r b _ _ _ _ (by simp at h; omega) e
  ·cases e
theorem dput_len {x y : W} : ∀ (ks us : List W), us.length = ks.length -> (dput ks us x y).2.length = (dput ks us x y).1.length
 | [], [], _ => rfl
 | [], _ :: _, h => by simp_all
 | _ :: _, [], h => by simp_all
 | k :: ks, u :: us, h => by
  unfold dput
  split
  ·exact h
  ·simpa using dput_len ks us (by simpa using h)
theorem pairs_len : ∀ (n : Nat) (a ks us ks' us' : List W), a.length <= n -> us.length = ks.length -> pairsPut a ks us = some (ks', us') -> us'.length = ks'.length
 | _, [], ks, us, ks', us', _, h, e => by
  rw [pairsPut] at e
  simp_all
 | _, [x], ks, us, ks', us', _, _, e => by rw [pairsPut] at e; cases e
 | 0, _ :: _ :: _, _, _, _, _, h, _, _ => by simp_all
 | n + 1, k :: v :: r, ks, us, ks', us', h, hl, e => by
  rw [pairsPut] at e
  split at e
  ·exact pairs_len n r _ _ _ _ (by simp at h; omega) (dput_len _ _ hl) e
  ·cases e
def kvK (cl : Cls) (call : Call) (ke ve : E) : Env -> Hh -> Res (List W) := fun env' h3 => match asW (ev cl call ke env' h3) with
 | .ok kw h4 => match asW (ev cl call ve env' h4) with
  | .ok vw h5 => .ok (kw ++ vw) h5
  | _ => .no
 | _ => .no
theorem put_step {k v : W} {a b ks us fs gs : List W} (p : pairsPut a [] [] = some (ks, us)) (t : pairsPut (a ++ ([k] ++ [v]) ++ b) [] [] = some (fs, gs)) :
  keyOk 8 k = true ∧ ks.length < sizeMax ∧ pairsPut (a ++ ([k] ++ [v])) [] [] = some (dput ks us k v) := by
 rw [List.append_assoc, pairs_cat a.length a _ _ _ _ _ (Nat.le_refl _) p] at t
 rw [pairs_cat a.length a _ _ _ _ _ (Nat.le_refl _) p]
 grind [pairsPut]
theorem vrs_set {H : Hp} {Z : Addr -> Prop} : ∀ {ws : List W} {vs : List V} {i : Nat} {w : W} {x : V}, VRs C H Z ws vs -> VR C H Z w x -> VRs C H Z (ws.set i w) (vs.set i x)
 | [], vs, i, w, x, h, hx => by unfold VRs at h; subst h; unfold VRs; rfl
 | a :: rs, vs, 0, w, x, h, hx => by
  obtain ⟨v, t, e, h1, h2⟩ := h
  subst e
  exact ⟨x, t, rfl, hx, h2⟩
 | a :: rs, vs, i + 1, w, x, h, hx => by
  obtain ⟨v, t, e, h1, h2⟩ := h
  subst e
  exact ⟨v, _, rfl, h1, vrs_set h2 hx⟩
theorem rest_D {total : List W} {ke ve : E} {fs gs : List W} (ht : pairsPut total [] [] = some (fs, gs)) :
  RestOk C Z0 D (AtD C Z0 D) total (kvK cl call ke ve) (tr1 C.w C D (tEv C (ev cl call ke)) (tEv C (ev cl call ve))) := by
 intro σ ρ h H env done ys rest h' Q hr a er ee hx q
 unfold kvK at ee
 cases e1 : asW (ev cl call ke env h) with
 | ex c v => simp_all
 | no => simp_all
 | ok kw h4 =>
  rw [e1] at ee
  dsimp only at ee
  cases e2 : asW (ev cl call ve env h4) with
  | ex c v => simp_all
  | no => simp_all
  | ok vw h5 =>
   rw [e2] at ee
   obtain ⟨k, ek, rfl⟩ := asW_ok e1
   obtain ⟨v, ev', rfl⟩ := asW_ok e2
   injection ee with ee1 ee2
   subst ee1 ee2
   refine ⟨_, ρ, h, env, hr, er, ?_⟩
   rw [ek]
   intro ρ4 H4 yv ex4 hr4 ry
   refine ⟨_, ρ4, h4, env, hr4, er.ex ex4, ?_⟩
   rw [ev']
   intro ρ5 H5 zv ex5 hr5 rz
   obtain ⟨ks, us, kv, vv, p, hD, r1, r2⟩ := atD_ok.ex _ _ _ _ _ _ _ hr4 ex5 (atD_ok.ex _ _ _ _ _ _ _ hr ex4 a)
   obtain ⟨k1, k2, k3⟩ := put_step p (by rw [hx]; exact ht)
   have hD0 := hD
   obtain ⟨ob0, hD⟩ := hD
   have lus := pairs_len _ _ _ _ _ _ (Nat.le_refl _) rfl p
   have x5 := ((ex4.trans ex5).d (D := D) (Z0 := Zp Z0 D) (Z1 := Zp Z0 D) fun _ z => .inl z)
   have rk5 : VR C H5 (Av ρ5 h5 (Zp Z0 D)) k yv := rr_w (RR.ex ex5 ry)
   refine ⟨_, k, ks, kv, vv, hD0, r1, rk5, k1, Nat.lt_of_lt_of_le k2 (sz_line (Nat.le_refl _)), fun j k0 hj hw hf ob => ?_, fun hn ob => ?_⟩
   ·refine q ρ5 _ (x5.trans (updZ_x hD noT_dct)) (hr5.updZ (.inr rfl) hD noT_dct) ⟨ks, us.set j v, kv, vv.set j zv, ?_, ⟨ob, upd_same⟩, VRs.upd hD noT_dct (.inr (.inr rfl)) r1, VRs.upd hD noT_dct (.inr (.inr rfl)) (vrs_set r2 (rr_w rz))⟩
    rw [k3, ((find_at hj hw hf).2.2 us lus : _)]
   ·refine q ρ5 _ (x5.trans (updZ_x hD noT_dct)) (hr5.updZ (.inr rfl) hD noT_dct) ⟨ks ++ [k], us ++ [v], kv ++ [yv], vv ++ [zv], ?_, ⟨ob, upd_same⟩, VRs.upd hD noT_dct (.inr (.inr rfl)) (vrs_app r1 (by unfold VRs; exact ⟨yv, [], rfl, rk5, by unfold VRs; rfl⟩)), VRs.upd hD noT_dct (.inr (.inr rfl)) (vrs_app r2 (by unfold VRs; exact ⟨zv, [], rfl, rr_w rz, by unfold VRs; rfl⟩))⟩
    rw [k3, (find_no hn).2.2 us lus]
theorem zp_fresh {H1 : Hp} (hD : H1 D = none) : ∀ b, Zp Z0 D b -> Z0 b ∨ H1 b = none := by grind
end
namespace P
section
variable {X : Cx} {N : Nm} {cl : Tf.Cls} {call : Call} {fuel : Nat}
variable {a b c e o elt tg iter tg1 iter1 kx vx : Expr} {es ifs ifs1 : List Expr} {ia ib ic ie io ik iv : E} {ies its cs its1 cs1 : List E} {pos p spos : Pos} {scope : Scope} {t t1 : T} {k kk : IK}
end
end P
end Tf
namespace TfD
open PySem
section
variable {prog : Program} {w : World} {A : Around} {E : Value -> Shared -> Prop} {s : Shared} {d : Addr} {o : Obj} {es : Array DictEntry} {ep : Nat} {xs : List NestedKey} {k : NestedKey} {v : Value}
theorem setHashed_nk {u : Value} {Q : Unit -> Shared -> Prop} (hu : A.units + 8 < cLine) (hk : KeyV s.heap k v) (D : DAt w s.heap d o es ep xs) (hz : es.size <= sizeLine)
  (q : ∀ r h', Told xs k r -> Stored w d es xs k v u s.heap h' r -> Q () { s with heap := h' }) : wpAny (model prog w) A (dictSetHashed d v (k.hash w) u) Q E s := by
 refine wpAny_holding (wpAny_bind (find_nk hu ⟨hk.is, hk.dp⟩ D.at_ D.data D.keys fun r hr => ?_))
 cases r with
 | none =>
  refine wpAny_bind (wpAny_rule (wpAny_updateDictKeys (hz := hz) D.at_ D.data (q none _ hr ⟨fun b hb => ?_, _, _, ep + 1, Heap.get?_update_self _ D.at_ (Obj.isFreed_of_dict (Obj.data_mapDictKeys D.data _)), D.ex.mapDictKeys _, Obj.data_mapDictKeys D.data _, by simp⟩)))
  exact (Heap.SameBut.update ..).2 b hb
 | some j =>
  refine wpAny_bind (wpAny_rule (wpAny_bind (wpAny_updateDict D.at_ D.data (wpAny_point (q (some j) _ hr ⟨fun b hb => ?_, _, _, ep, Heap.get?_update_self _ D.at_ (Obj.isFreed_of_dict (Obj.data_mapDict D.data _)), D.ex.mapDict _, Obj.data_mapDict D.data _, by simp⟩)))))
  exact (Heap.SameBut.update ..).2 b hb
end
end TfD
namespace Tf
open PySem L2 PyProof.Rows
section
variable {X : Cx} {N : Nm}
theorem put_hashed {pins : List (Addr × Obj)} {σ : Sg} {H : Hp} {s : Shared} {E : Value -> Shared -> Prop} {A : Around} (hu : A.units + 64 < cLine) (I : Inv X pins σ H s) {D : Addr} {Z : Addr -> Prop} {x : W} {ks : List W} {kv vv : List V} {y z : V} {u v : Value}
  (e : IsD H X.w D ks kv vv) (hk : VRs (ct N X) H Z ks kv) (hx : VR (ct N X) H Z x y) (ok : keyOk 8 x = true) (hz : ks.length < sizeLine) (ry : RelV y u) (rz : RelV z v) {Q : Unit -> Shared -> Prop}
  (q1 : ∀ j k s', ks[j]? = some k -> weq k x = true -> (∀ i k', i < j -> ks[i]? = some k' -> weq k' x = false) -> ∀ ob, Inv X pins σ (upd H D (dictO X.w D ob ks kv (vv.set j z))) s' -> (∀ b, b ≠ D -> s'.heap.get? b = s.heap.get? b) -> Q () s')
  (q2 : ∀ s', (∀ k ∈ ks, weq k x = false) -> ∀ ob, Inv X pins σ (upd H D (dictO X.w D ob (ks ++ [x]) (kv ++ [y]) (vv ++ [z]))) s' -> (∀ b, b ≠ D -> s'.heap.get? b = s.heap.get? b) -> Q () s') :
  wpAny (model X.prog X.w) A (dictSetHashed D u ((nk x).hash X.w) v) Q E s := by
 obtain ⟨o, es, ep, ws, zs, d⟩ := dict_is (N := N) I e hk
 have kx := VR.key (N := N) I ok hx ry
 have hsz := d.size
 refine TfD.setHashed_nk (by omega) kx d.d (by rw [hsz]; exact d.sz) fun r h' hr hs => ?_
 obtain ⟨same, o', es', ep', ho', hex', hd', hl'⟩ := hs
 have keep : ∀ b ob, b ≠ D -> s.heap.get? b = some ob -> h'.get? b = some ob := by simp_all
 rcases hr with ⟨rfl, hn⟩ | ⟨j, rfl, hj⟩
 ·have no := told_no d.ok ok hn
  refine q2 _ no o' (I.write (x := D) (e := D) (by obtain ⟨_, e⟩ := e; rw [e]; trivial) (.inl rfl) keep ⟨_, ho'⟩ (dict_ok ?_)) same
  refine ⟨es', ep', ws ++ [u], zs ++ [v], ho', hex', hd', d.d.sm, d.vk.append (.cons ry .nil), d.vz.append (.cons rz .nil), by simp [d.lk], by simp [d.lz], ?_, ?_, ?_, ?_⟩
  ·rw [<- ents_app d.lk d.lz, <- d.el]; exact hl'
  ·rw [List.map_append, List.nodup_append]
   exact ⟨d.nd, by simp, fun k hk2 k2 h2 g => by
    have : k2 = nk x := by grind
    subst this
    subst g
    exact hn hk2⟩
  ·rw [List.all_append, d.ok]; simp [ok]
  ·simp; omega
 ·obtain ⟨k, e1, e2, e3⟩ := told_at d.ok ok d.nd hj
  refine q1 j k _ e1 e2 e3 o' (I.write (x := D) (e := D) (by obtain ⟨_, e⟩ := e; rw [e]; trivial) (.inl rfl) keep ⟨_, ho'⟩ (dict_ok ?_)) same
  refine ⟨es', ep', ws, zs.set j v, ho', hex', hd', d.d.sm, d.vk, vals_set d.vz rz, d.lk, by simp [d.lz], ?_, d.nd, d.ok, d.sz⟩
  rw [<- ents_set d.lk d.lz, <- d.el]; exact hl'
theorem mapDict_hash {ks : List W} {us zs : List Value} {w : World} : ∀ {i : Nat} {e : DictEntry}, (ents w ks us zs)[i]? = some e -> ∃ k u z, ks[i]? = some k ∧ us[i]? = some u ∧ zs[i]? = some z ∧ e = ⟨(nk k).hash w, u, z⟩ := by
 induction ks generalizing us zs with
 | nil => intro i e h; unfold ents at h; simp at h
 | cons k ks ih =>
  intro i e h
  cases us with
  | nil => unfold ents at h; simp at h
  | cons u us =>
   cases zs with
   | nil => unfold ents at h; simp at h
   | cons z zs =>
    unfold ents at h
    cases i with
    | zero => simp_all
    | succ i => exact ih h
theorem vals_get : ∀ {vs : List V} {us : List Value} {i : Nat} {u : Value}, Vals vs us -> us[i]? = some u -> ∃ v, vs[i]? = some v ∧ RelV v u := by
 intro vs us i u h
 induction h generalizing i <;> grind
theorem puts_len : ∀ {js us : List W} {ks : List W} {vs : List R}, vs.length = ks.length -> (puts ks vs js us).1.length <= ks.length + js.length ∧ (puts ks vs js us).2.length = (puts ks vs js us).1.length
 | [], _, ks, vs, h => ⟨by unfold puts; simp, by unfold puts; exact h⟩
 | j :: js, [], ks, vs, h => ⟨by unfold puts; simp, by unfold puts; exact h⟩
 | j :: js, u :: us, ks, vs, h => by
  have a : (dput ks vs j (.w u)).1.length <= ks.length + 1 ∧ (dput ks vs j (.w u)).2.length = (dput ks vs j (.w u)).1.length := by
   induction ks generalizing vs with
   | nil => cases vs with
    | nil => exact ⟨Nat.le_refl _, rfl⟩
    | cons a b => simp at h
   | cons k ks ih => cases vs with
    | nil => simp at h
    | cons a b =>
     unfold dput
     split <;> simp_all
  obtain ⟨b1, b2⟩ := puts_len (js := js) (us := us) a.2
  unfold puts
  exact ⟨by have := a.1; simp only [List.length_cons]; omega, b2⟩
theorem puts_snoc : ∀ {js us : List W} {ks : List W} {vs : List R} {j u : W}, us.length = js.length -> puts ks vs (js ++ [j]) (us ++ [u]) = dput (puts ks vs js us).1 (puts ks vs js us).2 j (.w u)
 | [], [], ks, vs, j, u, _ => by simp only [List.nil_append, puts]
 | [], _ :: _, _, _, _, _, h => by simp_all
 | _ :: _, [], _, _, _, _, h => by simp_all
 | a :: js, b :: us, ks, vs, j, u, h => by
  rw [List.cons_append, List.cons_append]
  exact puts_snoc (by simpa using h)
theorem take_snoc {α : Type} {l : List α} {i : Nat} {a : α} (h : l[i]? = some a) : l.take (i + 1) = l.take i ++ [a] := by
 grind [List.take_add_one]
structure Wr (C : Ct) (H : Hp) (Z : Addr -> Prop) (ρ : List Addr) (ks : List W) (vs : List R) (kv vv : List V) : Prop where
 k : VRs C H Z ks kv
 v : RRs C H Z ρ vs vv
theorem Wr.put {C : Ct} {H : Hp} {Z : Addr -> Prop} {ρ : List Addr} {ks : List W} {vs : List R} {kv vv : List V} {x w : W} {y z : V} (a : Wr C H Z ρ ks vs kv vv) (hl : vs.length = ks.length) (hx : VR C H Z x y) (hw : VR C H Z w z) :
  (∀ j k, ks[j]? = some k -> weq k x = true -> (∀ i k', i < j -> ks[i]? = some k' -> weq k' x = false) -> Wr C H Z ρ (dput ks vs x (.w w)).1 (dput ks vs x (.w w)).2 kv (vv.set j z) ∧ (dput ks vs x (.w w)).1 = ks) ∧
  ((∀ k ∈ ks, weq k x = false) -> Wr C H Z ρ (dput ks vs x (.w w)).1 (dput ks vs x (.w w)).2 (kv ++ [y]) (vv ++ [z]) ∧ (dput ks vs x (.w w)).1 = ks ++ [x]) := by
 refine ⟨fun j k h1 h2 h3 => ?_, fun h => ?_⟩
 ·rw [((find_at h1 h2 h3).2.2 vs hl : _)]
  exact ⟨⟨a.k, rrs_set a.v (show RR C H Z ρ (.w w) z from hw)⟩, rfl⟩
 ·rw [(find_no h).2.2 vs hl]
  exact ⟨⟨vrs_app a.k (by unfold VRs; exact ⟨y, [], rfl, hx, by unfold VRs; rfl⟩), rrs_app a.v ⟨z, [], rfl, (show RR C H Z ρ (.w w) z from hw), rfl⟩⟩, rfl⟩
theorem ents_hash {w : World} : ∀ {ks : List W} {us zs : List Value}, us.length = ks.length -> zs.length = ks.length -> (ents w ks us zs).map (·.hash) = ks.map fun k => (nk k).hash w
 | [], us, zs, _, _ => by unfold ents; rfl
 | k :: ks, [], zs, h, _ => by simp_all
 | k :: ks, u :: us, [], _, h => by simp_all
 | k :: ks, u :: us, z :: zs, h1, h2 => by
  unfold ents
  rw [List.map_cons, List.map_cons, ents_hash (by simpa using h1) (by simpa using h2)]
abbrev ttK (n d : Int) : W := .tup [.int n, .int d]
theorem small_h {w : World} : ∀ a ∈ smallT, ∀ b ∈ smallT, (nk a).hash w = (nk b).hash w -> a = b := by
 have h01 : ((nk (ttK 0 1)).hash w == (nk (ttK 1 1)).hash w) = false := by kernel_rfl
 have h02 : ((nk (ttK 0 1)).hash w == (nk (ttK 1 2)).hash w) = false := by kernel_rfl
 have h03 : ((nk (ttK 0 1)).hash w == (nk (ttK 1 3)).hash w) = false := by kernel_rfl
 have h12 : ((nk (ttK 1 1)).hash w == (nk (ttK 1 2)).hash w) = false := by kernel_rfl
 have h13 : ((nk (ttK 1 1)).hash w == (nk (ttK 1 3)).hash w) = false := by kernel_rfl
 have h23 : ((nk (ttK 1 2)).hash w == (nk (ttK 1 3)).hash w) = false := by kernel_rfl
 intro a ha b hb e
 unfold smallT at ha hb
 simp only [List.mem_cons, List.mem_nil_iff, or_false] at ha hb
 rcases ha with rfl | rfl | rfl | rfl <;> rcases hb with rfl | rfl | rfl | rfl <;> simp_all
theorem wid_small : ∀ a ∈ smallT, ∀ j : W, wid a j = true -> j = a := by
 intro a ha j h
 have key : ∀ (n d : Int) (j : W), wid (.tup [.int n, .int d]) j = true -> j = .tup [.int n, .int d] := by
  intro n d j h
  cases j with
  | tup l =>
   have h : wids [.int n, .int d] l = true := by grind [wid]
   cases l with
   | nil => simp [wids] at h
   | cons x l =>
    cases l with
    | nil => simp [wids] at h
    | cons y l =>
     cases l with
     | nil =>
      simp only [wids, Bool.and_eq_true] at h
      obtain ⟨h1, h2⟩ := h
      cases x <;> simp [wid] at h1
      cases y <;> simp [wid] at h2
      simp_all
     | cons z l => simp [wids] at h
  | _ => simp [wid] at h
 unfold smallT at ha
 grind
theorem hash_nd {w : World} {js : List W} (nd : (js.map nk).Nodup) (ok : (Nat.ble js.length 1 || js.all fun j => smallT.any fun k => wid k j) = true) : (js.map fun j => (nk j).hash w).Nodup := by
 rw [Bool.or_eq_true] at ok
 rcases ok with ok | ok
 ·cases js <;> simp_all
 ·have hm : ∀ j ∈ js, j ∈ smallT := fun j hj => by
   obtain ⟨k, h1, h2⟩ := List.any_eq_true.mp (List.all_eq_true.mp ok j hj)
   rw [wid_small k h1 j h2]; exact h1
  clear ok
  induction js with
  | nil => simp_all
  | cons a l ih =>
   rw [List.map_cons, List.nodup_cons] at nd
   rw [List.map_cons, List.nodup_cons]
   refine ⟨fun z => ?_, ih nd.2 fun j hj => hm j (by simp [hj])⟩
   obtain ⟨b, hb, e⟩ := List.mem_map.mp z
   have := small_h b (hm b (by simp [hb])) a (hm a (by simp)) e
   exact nd.1 (List.mem_map.mpr ⟨b, hb, by rw [this]⟩)
theorem puts_new : ∀ {js us ks : List W} {vs : List R}, (ks ++ js).all (keyOk 8) = true -> ((ks ++ js).map nk).Nodup -> vs.length = ks.length -> us.length = js.length -> puts ks vs js us = (ks ++ js, vs ++ us.map R.w)
 | [], [], ks, vs, _, _, _, _ => by simp only [puts, List.append_nil, List.map_nil]
 | [], _ :: _, _, _, _, _, _, h => by simp_all
 | _ :: _, [], _, _, _, _, _, h => by simp_all
 | j :: js, u :: us, ks, vs, ok, nd, h1, h2 => by
  have okk : ks.all (keyOk 8) = true := by simp_all
  have okj : keyOk 8 j = true := by simp_all
  have hn : nk j ∉ ks.map nk := by
   rw [List.map_append, List.nodup_append] at nd
   simp_all
  unfold puts
  rw [(find_no (told_no okk okj hn)).2.2 vs h1]
  rw [puts_new (by rw [List.append_assoc]; exact ok) (by rw [List.append_assoc]; exact nd) (by simp [h1]) (by simpa using h2)]
  simp
theorem merge_put {pins : List (Addr × Obj)} {σ : Sg} {H : Hp} {s : Shared} {E : Value -> Shared -> Prop} {nm : String} {A : Around} (hu : A.units + 64 < cLine) (I : Inv X pins σ H s) {D A2 : Addr} {Z : Addr -> Prop} {ρ : List Addr} {ks js us : List W} {vs : List R} {kv vv jv uv : List V}
  (ne : D ≠ A2) (zD : Z D) (e : IsD H X.w D ks kv vv) (e2 : IsD H X.w A2 js jv uv) (a : Wr (ct N X) H Z ρ ks vs kv vv) (hj : VRs (ct N X) H Z js jv) (hw : VRs (ct N X) H Z us uv) (hl : vs.length = ks.length) (hl2 : us.length = js.length)
  (ok : updOk ks js = true) (hz : ks.length + js.length <= sizeLine) {Q : Unit -> Shared -> Prop}
  (q : ∀ kv' vv' s', Wr (ct N X) H Z ρ (puts ks vs js us).1 (puts ks vs js us).2 kv' vv' -> ∀ ob, Inv X pins σ (upd H D (dictO X.w D ob (puts ks vs js us).1 kv' vv')) s' -> Q () s') :
  wpAny (model X.prog X.w) A (Builtin.Dict.mergeDict nm D A2) Q E s := by
 obtain ⟨o2, es2, ep2, ws2, zs2, d2⟩ := dict_is (N := N) I e2 hj
 obtain ⟨o1, e1e⟩ := id e
 have hsz := d2.size
 unfold Builtin.Dict.mergeDict
 rw [if_neg (by simpa using ne)]
 unfold Builtin.Dict.showsAll
 rw [if_neg (by rw [d2.d.sm]; exact Bool.false_ne_true)]
 refine wpAny_bind (wpAny_pure ?_)
 refine wpAny_bind (wpAny_dictEntries d2.d.at_ d2.d.data ?_)
 have loop : wpAny (model X.prog X.w) A (do
   let epoch <- dictEpoch A2
   let l <- dictEntries A2
   forIn [:l.size] PUnit.unit fun i (_ : PUnit) => (do
     let l' <- dictEntries A2
     match l'[i]? with
      | some en => do
       holding [en.key, en.val] (dictSetHashed D en.key en.hash en.val)
       let ep' <- dictEpoch A2
       if (ep' != epoch) = true then do
         (unsupported (toString nm ++ toString ":source-changed-during-callback") : Sem PUnit)
         pure (ForInStep.yield PUnit.unit)
        else pure (ForInStep.yield PUnit.unit)
      | _ => do
       (unsupported "internal:dict-merge" : Sem PUnit)
       pure (ForInStep.yield PUnit.unit) : Sem (ForInStep PUnit))
   pure ()) Q E s := by
  refine wpAny_bind (wpAny_dictEpoch d2.d.at_ d2.d.data ?_)
  refine wpAny_bind (wpAny_dictEntries d2.d.at_ d2.d.data ?_)
  refine wpAny_bind ?_
  rw [Std.Legacy.Range.forIn_eq_forIn_range']
  simp only [Std.Legacy.Range.size, Nat.sub_zero, Nat.add_sub_cancel, Nat.div_one]
  refine wpAny_forIn_list _ (fun rest _ s' => ∃ i kv' vv' ob, rest = List.range' i (es2.size - i) ∧ i <= es2.size ∧ Wr (ct N X) H Z ρ (puts ks vs (js.take i) (us.take i)).1 (puts ks vs (js.take i) (us.take i)).2 kv' vv' ∧
   Inv X pins σ (upd H D (dictO X.w D ob (puts ks vs (js.take i) (us.take i)).1 kv' vv')) s' ∧ s'.heap.get? A2 = some o2) _ ?_ ?_ _ _ ⟨0, kv, vv, o1, by simp, Nat.zero_le _, by simpa [puts] using a, by
    have u0 : upd H D (dictO X.w D o1 ks kv vv) = H := by
     funext b
     by_cases hb : b = D
     ·subst hb; rw [upd_same, e1e]
     ·rw [upd_ne hb]
    simp only [List.take_zero, puts]
    rw [u0]; exact I, d2.d.at_⟩
  ·rintro x rest b s' ⟨i, kv', vv', ob9, hr, hi, a', I', g2⟩
   have hlt : i < es2.size := by
    rcases Nat.lt_or_ge i es2.size with h | h <;> simp_all
   obtain ⟨rfl, hrest⟩ : x = i ∧ rest = List.range' (i + 1) (es2.size - (i + 1)) := by
    have h1 : es2.size - i = (es2.size - (i + 1)) + 1 := by omega
    rw [h1, List.range'_succ] at hr
    simp_all
   refine wpAny_bind (wpAny_dictEntries g2 d2.d.data ?_)
   have hj' : x < js.length := by omega
   obtain ⟨j, ej⟩ : ∃ j, js[x]? = some j := ⟨js[x], by simp [hj']⟩
   obtain ⟨u, eu⟩ : ∃ u, us[x]? = some u := ⟨us[x]'(by omega), by simp [show x < us.length by omega]⟩
   have hen : ∃ en, es2[x]? = some en := ⟨es2[x], by simp [hlt]⟩
   obtain ⟨en, een⟩ := hen
   have een2 : (ents X.w js ws2 zs2)[x]? = some en := by
    rw [<- d2.el, Array.getElem?_toList]; exact een
   obtain ⟨j0, u0, z0, f1, f2, f3, rfl⟩ := mapDict_hash een2
   rw [ej] at f1
   cases f1
   obtain ⟨yv, y1, ry⟩ := vals_get d2.vk f2
   obtain ⟨zv, z1, rz⟩ := vals_get d2.vz f3
   obtain ⟨yv', y1', vy⟩ := vrs_get hj ej
   rw [y1] at y1'; cases y1'
   obtain ⟨zv', z1', vz⟩ := vrs_get hw eu
   rw [z1] at z1'; cases z1'
   rw [een]
   show wpAny _ _ (holding [u0, z0] (dictSetHashed D u0 ((nk j).hash X.w) z0) >>= _) _ _ _
   have lens := puts_len (js := js.take x) (us := us.take x) hl
   have tk : (js.take x).length = x := by rw [List.length_take]; omega
   have okj : keyOk 8 j = true := List.all_eq_true.mp d2.ok j (List.mem_of_getElem? ej)
   obtain ⟨p1, p2⟩ := a'.put lens.2 vy vz
   have step : puts ks vs (js.take (x + 1)) (us.take (x + 1)) = dput (puts ks vs (js.take x) (us.take x)).1 (puts ks vs (js.take x) (us.take x)).2 j (.w u) := by
    rw [take_snoc ej, take_snoc eu, puts_snoc (by rw [List.length_take, List.length_take, hl2])]
   have lift : ∀ {ws : List W} {xs : List V} {o' : HO}, VRs (ct N X) H Z ws xs -> VRs (ct N X) (upd H D o') Z ws xs := fun r => VRs.upd e1e noT_dct zD r
   have upp : ∀ {o' o'' : HO}, upd (upd H D o') D o'' = upd H D o'' := fun {o' o''} => by
    funext b
    by_cases hb : b = D
    ·subst hb; rw [upd_same, upd_same]
    ·rw [upd_ne hb, upd_ne hb, upd_ne hb]
   refine wpAny_bind (wpAny_holding (put_hashed (N := N) hu I' (Z := Z) ⟨_, upd_same⟩ (lift a'.k) (VR.upd e1e noT_dct zD vy) okj (by have := lens.1; rw [tk] at this; omega) ry rz (fun jj k s'' h1 h2 h3 ob8 I'' same => ?_) (fun s'' h1 ob8 I'' same => ?_)))
   ·obtain ⟨w1, w2⟩ := p1 jj k h1 h2 h3
    rw [upp] at I''
    have g3 : s''.heap.get? A2 = some o2 := (same A2 (Ne.symm ne)).trans g2
    refine wpAny_bind (wpAny_dictEpoch g3 d2.d.data ?_)
    rw [if_neg (by simp)]
    exact wpAny_pure ⟨x + 1, _, _, _, hrest, hlt, by rw [step]; exact w1, by rw [step, w2]; exact I'', g3⟩
   ·obtain ⟨w1, w2⟩ := p2 h1
    rw [upp] at I''
    have g3 : s''.heap.get? A2 = some o2 := (same A2 (Ne.symm ne)).trans g2
    refine wpAny_bind (wpAny_dictEpoch g3 d2.d.data ?_)
    rw [if_neg (by simp)]
    exact wpAny_pure ⟨x + 1, _, _, _, hrest, hlt, by rw [step]; exact w1, by rw [step, w2]; exact I'', g3⟩
  ·rintro b s' ⟨i, kv', vv', ob9, hr, hi, a', I', g2⟩
   have hin : i = es2.size := by
    rcases Nat.lt_or_ge i es2.size with h | h
    ·have h1 : es2.size - i = (es2.size - (i + 1)) + 1 := by omega
     rw [h1, List.range'_succ] at hr
     exact nomatch hr
    ·omega
   rw [hin, hsz, List.take_of_length_le (Nat.le_refl _), List.take_of_length_le (by omega)] at a' I'
   exact wpAny_pure (q kv' vv' s' a' _ I')
 dsimp only
 split
 ·rename_i hfew
  obtain ⟨o, es, ep, ws, zs, d⟩ := dict_is (N := N) I e a.k
  refine wpAny_bind (wpAny_dictEntries d.d.at_ d.d.data ?_)
  split
  ·rename_i hemp
   have h0 : es.size = 0 := by
    rw [Array.isEmpty_iff.mp hemp]; rfl
   rw [d.size] at h0
   have hk0 : ks = [] := by grind
   subst hk0
   have hv0 : vs = [] := List.eq_nil_of_length_eq_zero hl
   subst hv0
   have noF : ¬ (Nat.ble js.length 8 && js.all scalK) = true := by
    intro ok
    rw [Bool.and_eq_true] at ok
    refine absurd hfew ?_
    have hall : (es2.all fun e => (keyPart e.key).isSome) = true := by
     rw [Array.all_eq_true']
     intro en hm
     obtain ⟨i, hi, rfl⟩ := Array.mem_iff_getElem.mp hm
     have een2 : (ents X.w js ws2 zs2)[i]? = some es2[i] := by
      rw [<- d2.el]; simp [hi]
     obtain ⟨j0, u0, z0, f1, f2, f3, f4⟩ := mapDict_hash een2
     obtain ⟨yv, y1, ry⟩ := vals_get d2.vk f2
     obtain ⟨yv', y1', vy⟩ := vrs_get hj f1
     rw [y1] at y1'
     cases y1'
     rw [f4]
     have sc := List.all_eq_true.mp ok.2 j0 (List.mem_of_getElem? f1)
     cases j0 <;> first | (cases sc; done) | (unfold VR at vy; subst vy; first | (obtain ⟨t, rfl⟩ := ry; rfl) | (cases ry; rfl))
    simp_all
   unfold updOk at ok
   rw [Bool.or_eq_true] at ok
   have ok := ok.resolve_left noF
   rw [Bool.and_eq_true] at ok
   have hn : (es2.toList.map (·.hash)).Nodup := by
    rw [d2.el, ents_hash d2.lk d2.lz]
    exact hash_nd d2.nd ok.2
   refine wpAny_bind (PySem.wpAny_entriesForEmpty_raw d2.d.at_ d2.d.data (fun en hm => ?_) ?_)
   ·obtain ⟨i, hi⟩ := List.mem_iff_getElem?.mp hm
    rw [d2.el] at hi
    obtain ⟨j0, u0, z0, f1, f2, f3, rfl⟩ := mapDict_hash hi
    obtain ⟨yv, y1, ry⟩ := vals_get d2.vk f2
    obtain ⟨yv', y1', vy⟩ := vrs_get hj f1
    rw [y1] at y1'
    cases y1'
    have tk := List.all_eq_true.mp ok.1 j0 (List.mem_of_getElem? f1)
    cases j0 with
    | tup l =>
     obtain ⟨ad, xs, rfl, e5, _⟩ := tup_vr vy
     cases (show u0 = Value.ref ad from ry)
     obtain ⟨its, _, pt, _⟩ := I.tuple e5.t
     exact .inr ⟨ad, rfl, pt.typeIs, by
      rw [<- Array.length_toList, Array.toList_filter]
      exact PySem.filter_le_one (·.hash) _ es2.toList hn⟩
    | _ => cases tk
   ·have pn : puts ([] : List W) [] js us = (js, us.map R.w) := by
     have := puts_new (js := js) (us := us) (ks := []) (vs := []) (by rw [List.nil_append]; exact d2.ok) (by rw [List.nil_append]; exact d2.nd) rfl hl2
     simpa using this
    have wr : Wr (ct N X) H Z ρ (puts ([] : List W) [] js us).1 (puts ([] : List W) [] js us).2 jv uv := by
     rw [pn]
     exact ⟨hj, rrs_w hw⟩
    split
    ·refine wpAny_bind (wpAny_updateDictKeysTo d.d.at_ d.d.data (wpAny_pure (q jv uv _ wr _ (I.write (x := D) (e := D) (by obtain ⟨_, e⟩ := e; rw [e]; trivial) (.inl rfl)
      (fun b ob hb g => ((Heap.SameBut.update ..).2 b hb).trans g) ⟨_, Heap.get?_update_self _ d.d.at_ (Obj.isFreed_of_dict (Obj.data_mapDictKeys d.d.data _))⟩
      (dict_ok ⟨es2, ep + 1, ws2, zs2, Heap.get?_update_self _ d.d.at_ (Obj.isFreed_of_dict (Obj.data_mapDictKeys d.d.data _)), d.d.ex.mapDictKeys _, Obj.data_mapDictKeys d.d.data _, d.d.sm, d2.vk, d2.vz, by rw [pn]; exact d2.lk, by rw [pn]; exact d2.lz, by rw [pn]; exact d2.el, by rw [pn]; exact d2.nd, by rw [pn]; exact d2.ok, by rw [pn]; exact d2.sz⟩)))) (by have := d2.sz; rw [hsz]; omega))
    ·rename_i hne
     have h0 : es2 = #[] := Array.isEmpty_iff.mp (by simpa using hne)
     have hj0 : js.length = 0 := by rw [<- hsz, h0]; rfl
     exact absurd (by rw [List.length_eq_zero_iff.mp hj0]; rfl) noF
  ·exact loop
 ·exact loop
end
end Tf
namespace Tf
open PySem L2 PyProof.Rows
section
variable {X : Cx} {N : Nm} {cl : Cls} {call : Call} {o e : Expr} {es : List Expr} {name : Str} {apos cpos : Pos} {T id : String}
def TyAt (X : Cx) (T : String) (x : V) (H : Hp) : Prop := ∀ (pins : List (Addr × Obj)) (s : Shared) (σ : Sg) (v : Value), Inv X pins σ H s -> RelV x v -> s.TypeIs v T ∧ ∀ a, v = .ref a -> ∃ ob, s.heap.get? a = some ob ∧ ob.dict = none
theorem pe_bmX {r : V -> List V -> Hp -> VK -> Prop} {to : TE} {t : TA} (pa : PlainAttrs T) (slot : Slot T name id) (hty : typeOf (.builtin id) = pure (.type "method_descriptor")) (hm : MtR X id r) (ho : PE X o to) (ha : PA X (e :: es) t)
  (hbase : attributeBase o name X.env (eval o X.env) = eval o X.env)
  (hfew : ((backTo cpos (starEach (e :: es) X.env)).all (fun x => !x.1) && (backToKw cpos (keywordEach [] X.env)).all (fun x => x.1.isSome) && decide ((e :: es).length + ([] : List Keyword).length + (if ([] : List Keyword).isEmpty then 0 else 1) < 30)) = true)
  (hline : (apos.endLine == cpos.line) = true) (hs : starEach (e :: es) X.env = (false, eval e X.env) :: starEach es X.env) (hplain : (backTo cpos (starEach es X.env)).any (·.1) = false) :
  PE X (.Call (.Attribute o name apos) (e :: es) [] cpos) (fun σ H Q => to σ H fun x H1 => TyAt X T x H1 ∧ t σ H1 fun xs H2 => r x xs H2 Q) := ⟨fun pins s σ H Q I h => by
 refine wpAny_Call_method_late hbase hfew hline rfl (thn (ho.run pins s σ H _ I h) fun v s1 ⟨x, H1, I1, r1, ty, q1⟩ => ?_)
 obtain ⟨h1, h2⟩ := ty pins s1 σ v I1 r1
 refine ⟨T, id, pa, slot, hty, h1, h2, ?_⟩
 have hA := ha.run cpos pins s1 σ H1 _ I1 q1
 rw [hs] at hA ⊢
 refine Calls.callWith_builtin (by show (false || (backTo cpos (starEach es X.env)).any (·.1)) = false; rw [hplain] <;> rfl) (Calls.evalArgs_plain ?_)
 exact thn hA fun us s2 ⟨vs, H2, I2, r2, q2⟩ => hm pins s2 σ H2 x vs v us Q I2 r1 r2 q2⟩
def rMut (C : Ct) (op : Op) : V -> List V -> Hp -> VK -> Prop := fun x xs H Q => ∃ Z0 ρ h l a rs, x = .ref a ∧ ρ[l]? = some a ∧ HR C Z0 ρ h H ∧ RRs C H (Av ρ h Z0) ρ rs xs ∧ EQ C Z0 ρ h H Q (opR op (.loc l :: rs) h)
def opTy : Op -> String
 | .update => "dict"
 | .setdefault => "dict"
 | .get2 => "dict"
 | _ => "list"
theorem ty_obj {op : Op} {Z0 : Addr -> Prop} {ρ : List Addr} {h : Hh} {H : Hp} {l : Nat} {a : Addr} (hr : HR (ct N X) Z0 ρ h H) (ea : ρ[l]? = some a) (hk : kindOk op h[l]? = true) : TyAt X (opTy op) (.ref a) H := by
 intro pins s σ v I rv
 cases (show v = Value.ref a from rv)
 cases eo : h[l]? with
 | none => rw [eo] at hk; cases op <;> cases hk
 | some ob =>
  rw [eo] at hk
  have two : (opTy op = "list" ∧ ∃ rs, ob = .lst rs) ∨ (opTy op = "dict" ∧ ∃ ks us, ob = .dct ks us) := by
   cases op <;> first | (cases hk; done) | (cases ob <;> first | (cases hk; done) | exact .inl ⟨rfl, _, rfl⟩ | exact .inr ⟨rfl, _, _, rfl⟩)
  rcases two with ⟨e1, rs, rfl⟩ | ⟨e1, ks, us, rfl⟩
  ·obtain ⟨vs, e2, _⟩ := hr.ob l _ a eo ea (by intro z; cases z)
   rw [e1]
   obtain ⟨its, _, pl, _⟩ := I.list (.inl (.inl e2))
   refine ⟨pl.isList.typeIs, fun b e => ?_⟩
   obtain ⟨o, n, e, c, hd, _⟩ := pl
   simp_all
  ·obtain ⟨kv, vv, e2, r1, _⟩ := hr.ob l _ a eo ea (by intro z; cases z)
   rw [e1]
   obtain ⟨o, es, ep, ws, zs, d⟩ := dict_is (N := N) I e2 r1
   refine ⟨d.d.typeIs, fun b e => ?_⟩
   cases e
   exact ⟨o, d.d.at_, d.d.ex.2.1⟩
theorem se_mutE {op : Op} {io : E} {ies : List E} (pa : PlainAttrs (opTy op)) (slot : Slot (opTy op) name id) (hty : typeOf (.builtin id) = pure (.type "method_descriptor")) (hm : MtR X id (rMut (ct N X) op))
  (ho : PE X o (tEv (ct N X) (ev cl call io))) (ha : PA X (e :: es) (tEvs (ct N X) (evs cl call ies)))
  (hbase : attributeBase o name X.env (eval o X.env) = eval o X.env)
  (hfew : ((backTo cpos (starEach (e :: es) X.env)).all (fun x => !x.1) && (backToKw cpos (keywordEach [] X.env)).all (fun x => x.1.isSome) && decide ((e :: es).length + ([] : List Keyword).length + (if ([] : List Keyword).isEmpty then 0 else 1) < 30)) = true)
  (hline : (apos.endLine == cpos.line) = true) (hs : starEach (e :: es) X.env = (false, eval e X.env) :: starEach es X.env) (hplain : (backTo cpos (starEach es X.env)).any (·.1) = false) :
  PE X (.Call (.Attribute o name apos) (e :: es) [] cpos) (tEv (ct N X) (ev cl call (.mutE op io ies))) :=
 PE.imp (pe_bmX pa slot hty hm ho ha hbase hfew hline hs hplain) fun σ H Q ⟨Z0, ρ, h, env, hr, er, q⟩ => by
  unfold ev at q
  cases e1 : ev cl call io env h with
  | ex c v => rw [e1] at q; exact q.elim
  | no => rw [e1] at q; exact q.elim
  | ok r h1 =>
   rw [e1] at q
   cases r with
   | w w => exact q.elim
   | loc l =>
    dsimp only at q
    split at q
    case isFalse => exact q.elim
    rename_i hk
    refine tEv.bind hr er e1 fun H1 ρ1 v n1 rr => ?_
    obtain ⟨a, ea, rfl⟩ := rr
    refine ⟨ty_obj (N := N) n1.hr ea hk, ?_⟩
    cases e2 : evs cl call ies env h1 with
    | ex c v => rw [e2] at q; exact q.elim
    | no => rw [e2] at q; exact q.elim
    | ok rs h2 =>
     rw [e2] at q
     refine tEvs.bind n1.hr n1.er e2 fun H2 ρ2 vs n2 rrs => ?_
     exact ⟨Z0, ρ2, h2, l, a, rs, rfl, n2.ex.get ea, n2.hr, rrs, EQ.later (n1.ex.trans n2.ex) q⟩
theorem call_update {D A2 : Addr} {s : Shared} {Q : Value -> Shared -> Prop} {E : Value -> Shared -> Prop} (t1 : s.TypeIs (.ref D) "dict") (t2 : s.TypeIs (.ref A2) "dict")
  (h : wpAny (model X.prog X.w) X.A.in1 (Builtin.Dict.mergeDict "dict.update" D A2) (fun _ s' => Q .none s') (fun _ _ => False) s) :
  wpAny (model X.prog X.w) X.A (PySem.call (.builtin "dict.update") [.ref D, .ref A2]) Q E s := by
 refine call_meetsIn F.slot_dict_update t1 F.entry_dict_update (F.args_dict_update_2 _ _)
  (S := fun A' R s' => A' = X.A ∧ s' = s ∧ ∀ s'', Q .none s'' -> R (.ok (.ret .none)) s'') (fun A' R s' hS => ?_) ⟨rfl, rfl, fun _ q => q⟩
 obtain ⟨rfl, rfl, hq⟩ := hS
 refine meets_dict_update_arg t1 ?_
 refine wpAny_bind (wpAny_typeOf t2 ?_)
 refine wpAny_bind ?_
 unfold Builtin.Dict.merge
 refine wpAny_bind ?_
 refine wpAny_bind (wpAny_isInstance t2 isSubtype_dict_dict ?_)
 refine wpAny_bind (wpAny_specialOf t2 F.slot_dict_iter.lookup (wpAny_pure ?_))
 refine wpAny_mono h (fun _ s' q => ?_) fun _ _ z => z.elim
 exact wpAny_bind (wpAny_pure (wpAny_pure (hq _ q)))
theorem mt_update (hu : X.A.units + 128 < cLine) : MtR X "dict.update" (rMut (ct N X) .update) := by
 rintro pins s σ H x xs v us Q I rx rv ⟨Z0, ρ, h, l, a, rs, rfl, ea, hr, rr, q⟩
 cases (show v = Value.ref a from rx)
 have e4 : opR .update (.loc l :: rs) h = match oh_update (.loc l :: rs) h with | some (r, h') => .ok r h' | none => .no := rfl
 rw [e4] at q
 have sh : ∃ js us2, rs = [.w (.dct js us2)] := by
  match rs with
  | [] => exact q.elim
  | [.loc _] => exact q.elim
  | .loc _ :: _ :: _ => exact q.elim
  | .w w :: _ :: _ => cases w <;> exact q.elim
  | [.w w] => cases w <;> first | exact ⟨_, _, rfl⟩ | exact q.elim
 obtain ⟨js, us2, rfl⟩ := sh
 obtain ⟨y, rfl, ry⟩ := rrs1 rr
 have ry := rr_w ry
 obtain ⟨A2, jv, uv, rfl, e2, nA, rj, ru⟩ := ry
 obtain ⟨u, rfl, hu2⟩ := vals1 rv
 cases (show u = Value.ref A2 from hu2)
 unfold oh_update at q
 dsimp only at q
 cases eo : h[l]? with
 | none => rw [eo] at q; exact q.elim
 | some ob =>
  rw [eo] at q
  cases ob with
  | dct ks vs =>
   dsimp only at q
   split at q
   case h_2 => exact q.elim
   rename_i r3 h3 heq
   split at heq
   case isFalse => cases heq
   rename_i hc
   cases heq
   obtain ⟨hc, c4⟩ := and2 hc
   obtain ⟨hc, c3⟩ := and2 hc
   obtain ⟨c1, c2⟩ := and2 hc
   have c2 := of_decide_eq_true c2
   have c3 := of_decide_eq_true c3
   have c4 := of_decide_eq_true c4
   obtain ⟨kv, vv, e1, r1, r2⟩ := hr.ob l _ a eo ea (by intro z; cases z)
   have lv : Live ρ h a := ⟨l, _, ea, eo, by intro z; cases z⟩
   have ne : a ≠ A2 := fun z => nA (z ▸ .inl lv)
   refine call_update (dict_type I e1) (dict_type I e2) (merge_put (N := N) (A := X.A.in1) (by show X.A.units + 1 + 64 < cLine; omega) I ne (.inl lv) e1 e2 ⟨r1, r2⟩ rj ru c3 c4 c1 (Nat.le_trans c2 (sz_line (Nat.le_refl _))) fun kv' vv' s' wr ob I' => ?_)
   obtain ⟨ob1, e1⟩ := e1
   obtain ⟨p1, p2⟩ := hr.put (u := dictO X.w a ob (puts ks vs js us2).1 kv' vv') (o' := .dct (puts ks vs js us2).1 (puts ks vs js us2).2) ea eo (by intro z; cases z) (by intro z; cases z) e1 noT_dct
    ⟨kv', vv', ⟨_, upd_same⟩, VRs.upd e1 noT_dct (.inl lv) wr.k, RRs.upd e1 noT_dct (.inl lv) wr.v⟩
   exact ⟨.non, _, I', rfl, q ρ _ .non p2 p1 (by unfold RR VR; rfl)⟩
  | _ => exact q.elim
end
end Tf
namespace Tf.P
open PySem L2 PyProof.Rows
section
variable {X : Cx} {N : Nm} {cl : Tf.Cls} {call : Call} {o e : Expr} {io ie : E} {ies : List E} {es : List Expr} {apos cpos : Pos} {kk : Nat}
theorem upd (hr : RoomG kk X.A) (ho : PE X o (tEv (ct N X) (ev cl call io))) (ha : PA X (e :: es) (tEvs (ct N X) (evs cl call ies)))
  (hbase : attributeBase o "update" X.env (eval o X.env) = eval o X.env := by rfl)
  (hfew : ((backTo cpos (starEach (e :: es) X.env)).all (fun x => !x.1) && (backToKw cpos (keywordEach [] X.env)).all (fun x => x.1.isSome) && decide ((e :: es).length + ([] : List Keyword).length + (if ([] : List Keyword).isEmpty then 0 else 1) < 30)) = true := by rfl)
  (hline : (apos.endLine == cpos.line) = true := by rfl) (hs : starEach (e :: es) X.env = (false, eval e X.env) :: starEach es X.env := by rfl) (hplain : (backTo cpos (starEach es X.env)).any (·.1) = false := by rfl) :
  PE X (.Call (.Attribute o "update" apos) (e :: es) [] cpos) (tEv (ct N X) (ev cl call (.mutE .update io ies))) :=
 se_mutE PySem.F.plainAttrs_dict PySem.F.slot_dict_update PySem.F.type_dict_update (mt_update (by have := hr.room.un; omega)) ho ha hbase hfew hline hs hplain
end
end Tf.P
namespace Tf
open PySem L2 PyProof.Rows
section
variable {X : Cx} {N : Nm} {cl : Tf.Cls} {call : Call}
end
end Tf
namespace Tf.P
open PySem L2 PyProof.Rows
section
variable {X : Cx} {N : Nm} {cl : Tf.Cls} {call : Call} {fuel : Nat} {o e : Expr} {io ie : E} {pos : Pos}
end
end Tf.P
namespace Tf
open PySem L2 PyProof.Rows
section
variable {X : Cx} {N : Nm} {cl : Cls} {call : Call} {fuel k i : Nat} {f C g : Addr} {fdt : FuncData} {ps : List Str} {CX : CXT} {x m : Str} {p pos apos : Pos} {e o : Expr} {es : List Expr} {ies : List E} {io : E}
theorem methK_core {fn c : Nat} {t : TA} {te : TE} {Cc : Ct} {sp : Sp} {E : XK} (hc0 : Cc.cls c = C) (one : ∀ c' g', look2 cl.meths c' fn = some g' -> c' = c ∧ g' = i) (inj : ∀ n, Cc.fld n = m -> n = fn) (hte : te = tEv Cc (ev cl call io)) (ht : t = tEvs Cc (evs cl call ies))
  (core : ∀ Z0 ρ h H rs vs Q, HR Cc Z0 ρ h H -> RRs Cc H (Av ρ h Z0) ρ rs vs -> EQ Cc Z0 ρ h H Q (call .kp i rs h) -> sp vs H Q E) {σ : Sg} {H : Hp} {Q : VK} (q : tEv Cc (ev cl call (.methK fn io ies)) σ H Q) : tMeth C m sp [] E te t σ H Q := by
 subst hte ht
 obtain ⟨Z0, ρ, h, env, hr, er, q⟩ := q
 unfold ev at q
 refine ⟨Z0, ρ, h, env, hr, er, ?_⟩
 cases e1 : ev cl call io env h with
 | ex c v => rw [e1] at q; exact q.elim
 | no => rw [e1] at q; exact q.elim
 | ok r h1 =>
  rw [e1] at q
  dsimp only at q
  intro ρ1 H1 v ex hr1 rr
  cases e2 : methF cl fn r h1 with
  | none => rw [e2] at q; exact q.elim
  | some g' =>
   rw [e2] at q
   unfold methF at e2
   cases e3 : clsOf h1 r with
   | none => rw [e3] at e2; cases e2
   | some c' =>
    rw [e3] at e2
    dsimp only at e2
    split at e2
    ·cases e2
    ·rename_i nf
     obtain ⟨rfl, rfl⟩ := one c' g' e2
     obtain ⟨a, dx, fs, ev1, ea, ef⟩ := ins_at hr1 rr e3
     rw [hc0] at ea
     refine ⟨a, dx, fs, ev1, ea, fld_none inj ef.2 (by simpa using nf), Z0, ρ1, h1, env, hr1, er.ex ex, ?_⟩
     cases e4 : evs cl call ies env h1 with
     | ex c v => rw [e4] at q; exact q.elim
     | no => rw [e4] at q; exact q.elim
     | ok rs h2 =>
      rw [e4] at q
      intro ρ2 H2 vs ex2 hr2 rrs
      rw [vapp]
      exact core Z0 ρ2 h2 H2 (r :: rs) (v :: vs) Q hr2 ⟨v, vs, rfl, RR.ex ex2 rr, rrs⟩ (EQ.later (ex.trans ex2) q)
theorem se_methK {fn c : Nat} {pl : Sem Bool} (F : Cal X.prog X.w X.K X.mg X.base CX N cl fuel call k i f fdt ps) (hc0 : N.cls c = C) (one : ∀ c' g', look2 cl.meths c' fn = some g' -> c' = c ∧ g' = i) (inj : ∀ n, N.fld n = m -> n = fn)
  (he : PE X o (tEv (ct N X) (ev cl call io))) (cc : L2.Cls X.K C) (hm : Meth X.K C m f) (hr : RoomG k X.A) (hb : Binds X.K fdt ps []) (hx : ∀ E, Passes CX X E) (ha : PA X (e :: es) (tEvs (ct N X) (evs cl call ies)))
  (hst : starEach (e :: es) X.env = (false, eval e X.env) :: starEach es X.env) (hpl : (backTo pos (starEach es X.env)).any (·.1) = false)
  (ht : eval (.Call (.Attribute o m apos) (e :: es) [] pos) X.env = (do
   let ov <- eval o X.env
   standAt apos.atName
   let (f, first) <- holding [ov] (getMethod ov m pl)
   callWith pos f first (backTo pos (starEach (e :: es) X.env)) (backToKw pos (keywordEach [] X.env)))) : PE X (.Call (.Attribute o m apos) (e :: es) [] pos) (tEv (ct N X) (ev cl call (.methK fn io ies))) := by
 rcases F with n | ⟨fd, call', hc, F⟩
 ·refine ⟨fun pins s σ H Q I q => ?_⟩
  obtain ⟨Z0, ρ, h, env, hr, er, q⟩ := q
  unfold ev at q
  split at q
  ·split at q
   ·rename_i g' hg
    split at q
    ·unfold methF at hg
     split at hg
     ·split at hg
      ·cases hg
      ·rw [(one _ _ hg).2, n] at q
       exact q.elim
     ·grind
    ·exact q.elim
    ·exact q.elim
   ·exact q.elim
  ·exact q.elim
  ·exact q.elim
 ·exact PE.imp (meth_g (E := fun _ _ _ => False) he cc hm F hr hb .nil (hx _) ha hst hpl ht) fun σ H Q q => methK_core (Cc := ct N X) hc0 one inj rfl rfl (fun Z0 ρ h H rs vs Q hr rr q => kp_core hr rr (by rw [<- hc]; exact q)) q
end
end Tf
namespace Tf.P
open PySem L2 PyProof.Rows
section
variable {X : Cx} {N : Nm} {cl : Tf.Cls} {call : Call} {fuel : Nat} {o e : Expr} {es : List Expr} {io ie : E} {ies : List E} {pos p : Pos}
theorem methK {kk i fn c : Nat} {f C : Addr} {fdt : FuncData} {ps : List Str} {m : Str} {apos : Pos} (F : Cal X.prog X.w X.K X.mg X.base CX0 N cl fuel call kk i f fdt ps) (hc0 : N.cls c = C) (one : ∀ c' g', look2 cl.meths c' fn = some g' -> c' = c ∧ g' = i) (inj : ∀ n, N.fld n = m -> n = fn) (cc : L2.Cls X.K C) (hm : Meth X.K C m f) (hr : RoomG kk X.A) (hb : Binds X.K fdt ps [])
  (he : PE X o (tEv (ct N X) (ev cl call io))) (ha : PA X (e :: es) (tEvs (ct N X) (evs cl call ies)))
  (hst : starEach (e :: es) X.env = (false, eval e X.env) :: starEach es X.env := by rfl) (hpl : (backTo pos (starEach es X.env)).any (·.1) = false := by rfl)
  {pl : Sem Bool} (ht : eval (.Call (.Attribute o m apos) (e :: es) [] pos) X.env = (do
   let ov <- eval o X.env
   standAt apos.atName
   let (f, first) <- holding [ov] (getMethod ov m pl)
   callWith pos f first (backTo pos (starEach (e :: es) X.env)) (backToKw pos (keywordEach [] X.env))) := by rfl) : PE X (.Call (.Attribute o m apos) (e :: es) [] pos) (tEv (ct N X) (ev cl call (.methK fn io ies))) :=
 se_methK F hc0 one inj he cc hm hr hb (fun _ _ _ _ _ _ _ _ h => h.elim) ha hst hpl ht
end
end Tf.P
namespace Tf
open PySem L2 PyProof.Rows
section
variable {X : Cx} {N : Nm} {cl : Tf.Cls} {call : Call} {fuel : Nat} {e : Expr} {ie : E}
theorem snap_ctx {C : Ct} {Z0 : Addr -> Prop} {ρ : List Addr} {h : Hh} {H : Hp} {env : Env} {σ : L2.St} (hr : HR C Z0 ρ h H) (er : ER C H (Av ρ h Z0) ρ env σ) :
  HR C Z0 [] [] H ∧ ER C H (Av [] [] Z0) [] (snapE h env) σ := by
 refine ⟨⟨rfl, List.nodup_nil, fun n o a e => by simp at e, hr.zd, fun a e => by simp at e, fun a e => by simp at e⟩, fun i r ei => ?_⟩
 unfold snapE at ei
 rw [List.getElem?_map] at ei
 cases e0 : env[i]? with
 | none => simp_all
 | some o =>
  rw [e0] at ei
  cases o with
  | none => cases ei
  | some r0 =>
   cases e1 : fz h 0 20 r0 with
   | none => simp_all
   | some w =>
    simp [e1] at ei
    subst ei
    obtain ⟨v, e2, rr⟩ := er i r0 e0
    exact ⟨v, e2, fz_ok hr (fun a z => .inr (by
     rcases z with ⟨n, o, z, _⟩ | z
     ·simp at z
     ·exact z)) 20 r0 v w e1 rr⟩
theorem snap_back {C : Ct} {Z0 : Addr -> Prop} {ρ ρ' : List Addr} {h h' : Hh} {H H' : Hp} (hr : HR C Z0 ρ h H) (ex : Ex [] [] H ρ' h' H') : Ex ρ h H ρ h H' ∧ HR C Z0 ρ h H' := by
 have k : ∀ a o, H a = some o -> H' a = some o := fun a o e => (ex.fr a o e (fun ⟨n, o, z, _⟩ => by simp at z)).1
 have x : Ex ρ h H ρ h H' := ⟨⟨[], by simp⟩, fun a o e n => ⟨k a o e, n⟩, ex.tp, ex.xp⟩
 refine ⟨x, ⟨hr.len, hr.nd, fun n o a e1 e2 d => OR_ex (hr.ob n o a e1 e2 d) x fun u => k a u, fun a z => ?_, fun a z => ?_, hr.dj⟩⟩
 ·obtain ⟨o, e⟩ := hr.zd a z
  simp_all
 ·obtain ⟨o, e⟩ := hr.tr a z
  simp_all
theorem kill_get {n : Nat} {o : O} : ∀ {ls : List Nat} {h : Hh}, (kill h ls)[n]? = some o -> o ≠ .dead -> h[n]? = some o ∧ n ∉ ls
 | [], h, e, _ => ⟨e, List.not_mem_nil⟩
 | l :: ls, h, e, d => by
  obtain ⟨e1, e2⟩ := kill_get (ls := ls) (h := h.set l .dead) e d
  by_cases z : l = n
  ·subst z
   by_cases hl : l < h.length <;> simp_all
  ·rw [List.getElem?_set_ne z] at e1
   exact ⟨e1, fun y => (List.mem_cons.mp y).elim (fun w => z w.symm) e2⟩
theorem kill_len : ∀ {ls : List Nat} {h : Hh}, (kill h ls).length = h.length
 | [], h => rfl
 | l :: ls, h => (kill_len (ls := ls) (h := h.set l .dead)).trans (List.length_set ..)
theorem fz_gone {C : Ct} {Z0 Z : Addr -> Prop} {ρ : List Addr} {h : Hh} {H : Hp} (hr : HR C Z0 ρ h H) (k : ∀ a, Z a -> Av ρ h Z0 a) : ∀ (m : Nat) (r : R) (v : V) (w : W), fz h 0 m r = some w -> (∀ l ∈ reach h m r, ∀ a, ρ[l]? = some a -> ¬ Z a) ->
  RR C H (Av ρ h Z0) ρ r v -> VR C H Z w v := by
 intro m
 induction m with
 | zero =>
  intro r v w e n rr
  cases r with
  | w w' => cases e; exact VR.mono k rr
  | loc l => cases e
 | succ m ih =>
  have many : ∀ (rs : List R) (vs : List V) (ws : List W), fzs (fz h 0 m) rs = some ws -> (∀ l ∈ rs.flatMap (reach h m), ∀ a, ρ[l]? = some a -> ¬ Z a) -> RRs C H (Av ρ h Z0) ρ rs vs -> VRs C H Z ws vs := by
   intro rs
   induction rs with
   | nil => intro vs ws e _ rr; cases e; exact rr
   | cons r rs ih2 =>
    intro vs ws e n rr
    obtain ⟨v, t, rfl, r1, r2⟩ := rr
    unfold fzs at e
    cases e1 : fz h 0 m r with
    | none => rw [e1] at e; cases e
    | some w =>
     rw [e1] at e
     cases e2 : fzs (fz h 0 m) rs with
     | none => simp_all
     | some ws2 =>
      rw [e2] at e
      cases e
      unfold VRs
      exact ⟨v, t, rfl, ih r v w e1 (fun l hl => n l (List.mem_flatMap.mpr ⟨r, by simp, hl⟩)) r1, ih2 t ws2 e2 (fun l hl => n l (by rw [List.flatMap_cons]; exact List.mem_append_right _ hl)) r2⟩
  intro r v w e n rr
  cases r with
  | w w' =>
   unfold fz at e
   cases e
   exact VR.mono k rr
  | loc l =>
   obtain ⟨a, ea, rfl⟩ := rr
   unfold fz at e
   unfold reach at n
   have na := n l (by simp) a ea
   cases eo : h[l]? with
   | none => rw [eo] at e; cases e
   | some ob =>
    rw [eo] at e n
    cases ob with
    | lst rs =>
     cases e1 : fzs (fz h 0 m) rs with
     | none => grind
     | some ws =>
      dsimp only at e
      rw [e1] at e
      cases e
      obtain ⟨vs, e5, rl⟩ := hr.ob l _ a eo ea (by intro z; cases z)
      unfold VR
      exact ⟨a, vs, rfl, e5, na, many rs vs ws e1 (fun l hl => n l (List.mem_cons_of_mem _ hl)) rl⟩
    | dct ks us =>
     cases e1 : fzs (fz h 0 m) us with
     | none => dsimp only at e; rw [e1] at e; cases e
     | some ws =>
      dsimp only at e
      rw [e1] at e
      cases e
      obtain ⟨kv, vv, e5, rk, rl⟩ := hr.ob l _ a eo ea (by intro z; cases z)
      unfold VR
      exact ⟨a, kv, vv, rfl, e5, na, VRs.mono k rk, many us vv ws e1 (fun l hl => n l (List.mem_cons_of_mem _ hl)) rl⟩
    | ins c ns us =>
     cases e1 : fzs (fz h 0 m) us with
     | none => dsimp only at e; rw [e1] at e; cases e
     | some ws =>
      dsimp only at e
      rw [e1] at e
      cases e
      obtain ⟨dx, fs, e5, ef, rl⟩ := hr.ob l _ a eo ea (by intro z; cases z)
      unfold VR
      exact ⟨a, dx, fs, rfl, e5, na, ef, many us _ ws e1 (fun l hl => n l (List.mem_cons_of_mem _ hl)) rl⟩
    | tup us =>
     cases e1 : fzs (fz h 0 m) us with
     | none => simp_all
     | some ws =>
      dsimp only at e
      rw [e1] at e
      cases e
      obtain ⟨vs, e5, rl⟩ := hr.ob l _ a eo ea (by intro z; cases z)
      unfold VR
      exact ⟨a, vs, rfl, e5, many us _ ws e1 (fun l hl => n l (List.mem_cons_of_mem _ hl)) rl⟩
    | exc _ _ => cases e
    | dead => cases e
end
end Tf
namespace Tf
open PySem L2 PyProof.Rows
theorem from_le : ∀ (ts : List Str) (k : Nat) (acc : Str), (textFrom k acc ts).length <= acc.length + piled ts
 | [], k, acc => by show acc.length <= acc.length + 0; omega
 | t :: r, k, acc => by
  have h := from_le r (k + 1) (acc ++ (if k > 0 then ", " else "" : String) ++ t)
  have e : (acc ++ (if k > 0 then ", " else "" : String) ++ t).length <= acc.length + 2 + t.length := by
   rw [strLen_append, strLen_append]
   split
   ·show acc.length + 2 + t.length <= _; omega
   ·show acc.length + 0 + t.length <= _; omega
  show (textFrom (k + 1) _ r).length <= _
  rw [piled_cons]; omega
theorem list_le (ts : List Str) : (listText ts).length <= piled ts + 2 := by
 have h := from_le ts 0 "["
 show (textFrom 0 "[" ts ++ "]").length <= _
 rw [strLen_append]
 have e : (("[" : String) : Str).length = 1 := rfl
 have e2 : (("]" : String) : Str).length = 1 := rfl
 omega
theorem tuple_le (ts : List Str) : (tupleText ts).length <= piled ts + 3 := by
 unfold tupleText
 rw [strLen_append, strLen_append]
 have e : (("(" : String) : Str).length = 1 := rfl
 have e2 : (((if ts.length == 1 then ",)" else ")" : String) : Str)).length <= 2 := by split <;> decide
 have e3 : (Str.join ", " ts).length <= piled ts := by
  by_cases h : ts = []
  ·subst h; exact Nat.le_refl _
  ·have := join_length_add ts h; omega
 omega
theorem int_le (i : Int) : (Str.ofString (toString i)).length <= i.natAbs.log2 + 3 := by
 have h := int_text_length_le (a := i) (k := i.natAbs.log2 + 1) (Nat.succ_pos _) (Nat.lt_succ_self _)
 rw [PySem.ofString_length]
 omega
mutual
theorem shown_le : ∀ w : W, showOk w = true -> (toD w).shown.length <= reprLen w
 | .non, _ => by unfold toD PyData.shown reprLen; decide
 | .bl b, _ => by unfold toD PyData.shown reprLen; cases b <;> decide
 | .int i, _ => by
  unfold toD PyData.shown reprLen
  exact int_le i
 | .str x, h => by
  unfold toD PyData.shown reprLen
  unfold showOk at h
  have q : ∀ c ∈ x, c < 16 ^ 8 := fun c hc => by
   have z := List.all_eq_true.mp h c hc
   rw [Bool.and_eq_true] at z
   have := Nat.ble_eq.mp z.2
   exact Nat.lt_of_lt_of_le (show c < 127 from this) (by decide)
  have := StrLaws.reprText_len (tx x) (by intro c hc; exact q c (by simpa [tx] using hc))
  have e : (tx x).length = x.length := by simp [tx, Str.length]
  rw [e] at this
  exact this
 | .tup ws, h => by
  unfold toD PyData.shown reprLen
  unfold showOk at h
  have := piled_le ws h
  have := tuple_le (PyData.shownAll (toDs ws))
  omega
 | .lst ws, h => by
  unfold toD PyData.shown reprLen
  unfold showOk at h
  have := piled_le ws h
  have := list_le (PyData.shownAll (toDs ws))
  omega
 | .dct _ _, h => by unfold showOk at h; cases h
 | .ins _ _ _, h => by unfold showOk at h; cases h
 | .exc _ _, h => by unfold showOk at h; cases h
 | .scr _, h => by unfold showOk at h; cases h
 | .rep _, h => by unfold showOk at h; cases h
theorem piled_le : ∀ ws : List W, showsOk ws = true -> piled (PyData.shownAll (toDs ws)) <= reprLens ws
 | [], _ => by unfold toDs PyData.shownAll reprLens; exact Nat.le_refl _
 | w :: ws, h => by
  unfold showsOk at h
  rw [Bool.and_eq_true] at h
  unfold toDs PyData.shownAll reprLens
  rw [piled_cons]
  have := shown_le w h.1
  have := piled_le ws h.2
  omega
end
section
variable {X : Cx} {N : Nm} {cl : Tf.Cls} {call : Call} {k : Nat}
end
end Tf
namespace Tf
open PySem L2 PyProof.Rows
section
variable {X : Cx} {N : Nm} {cl : Cls} {call : Call} {k : Nat}
end
section
variable {prog : Program} {w : World} {A : Around} {E : Value -> Shared -> Prop} {s : Shared}
end
theorem enum_get : ∀ {ws : List W} {lo : Int} {i : Nat} {w : W}, (enumW lo ws)[i]? = some w -> ∃ u, ws[i]? = some u ∧ w = .tup [.int (lo + i), u]
 | [], lo, i, w, h => by unfold enumW at h; simp at h
 | u :: us, lo, 0, w, h => by
  unfold enumW at h
  simp_all
 | u :: us, lo, i + 1, w, h => by
  unfold enumW at h
  obtain ⟨v, h1, h2⟩ := enum_get h
  refine ⟨v, h1, ?_⟩
  rw [h2]
  congr 2
  congr 1
  omega
theorem enum_len : ∀ {ws : List W} {lo : Int}, (enumW lo ws).length = ws.length
 | [], lo => rfl
 | u :: us, lo => by unfold enumW; rw [List.length_cons, List.length_cons, enum_len]
section
variable {C : Ct} {H H' : Hp} {Z Z' Z0 Z1 : Addr -> Prop} {ρ ρ' : List Addr} {h h' : Hh}
theorem pair_rt {ts : List T} {u v : W} {x y : V} {p : Addr} (hr : HR C Z1 ρ' h' H') (hp : H' p = none) (r1 : VR C H' (Av ρ' h' Z1) u x) (r2 : VR C H' (Av ρ' h' Z1) v y) :
  RT C (upd H' p (.tup [x, y])) (Av ρ' h' Z1) ρ' (.t ts) (.w (.tup [u, v])) (.ref p) :=
 .inr ⟨ts, [u, v], p, [x, y], rfl, rfl, rfl, .inl (.inl upd_same), VRs.ex (Ex.fresh hr hp) (by unfold VRs; exact ⟨x, [y], rfl, r1, by unfold VRs; exact ⟨y, [], rfl, r2, by unfold VRs; rfl⟩⟩)⟩
theorem Src.enum {ts : List T} {a : Addr} {xs : List V} {us : List W} (ea : H a = some (.lst xs)) (na : ¬ Av ρ h Z0 a) (ra : VRs C H (Av ρ h Z0) us xs) : Src C (.t ts) (Ite C.K a) (enumW 0 us) [] Z0 ρ h H where
 go := fun Z1 ρ' h' H' x hr _ i w hw => by
  have e1 := (x.kp a _ ea na).1
  obtain ⟨u, hu, rfl⟩ := enum_get hw
  obtain ⟨p, hp, rp⟩ := vrs_get (x.vrs ra) hu
  refine ⟨⟨xs, p, .of e1, hp⟩, fun y H'' z => ?_⟩
  obtain ⟨T, p', rfl, hT, rfl, f1⟩ := z
  have z1 := f1 xs (.of e1)
  rw [hp] at z1
  cases z1
  refine ⟨.inr ⟨T, _, hT, rfl⟩, pair_rt hr hT ?_ rp⟩
  rw [Int.zero_add]
  exact vr_int_i
 stop := fun Z1 ρ' h' H' x hr _ => ⟨xs, .of (x.kp a _ ea na).1, by rw [vrs_len ra, enum_len]; exact Nat.le_refl _⟩
end
theorem walk_all {k : IK} {rs : List R} {h1 : Hh} {ws : List W} {st : List (Nat × O)} (hk : k ≠ .seq) (e : walk k rs h1 = some (ws, st)) : ∃ us, rs = us.map .w ∧ walkW k us = some ws ∧ st = [] := by
 unfold walk at e
 split at e
 ·rename_i us e1
  cases e2 : walkW k us with
  | none => simp_all
  | some l =>
   rw [e2] at e
   cases e
   exact ⟨us, allW_some e1, e2, rfl⟩
 ·simp_all
section
variable {X : Cx} {N : Nm} {cl : Cls} {call : Call} {e e2 : Expr} {ie ie2 : E} {ts : List T} {t : T} {p pos apos tpos : Pos} {elts : List Expr} {kk : Nat} {tg : Expr}
end
end Tf
namespace Tf
open PySem L2 PyProof.Rows
section
variable {X : Cx} {N : Nm} {cl : Cls} {call : Call}
theorem sf_dct1 {k v : Expr} {ik iv : E} {pos : Pos} (hu : X.A.units + 64 < cLine) (hx : X.xe = NoE) (pk : PE X k (tEv (ct N X) (ev cl call ik))) (pv : PE X v (tEv (ct N X) (ev cl call iv))) :
  PE X (.Dict [some k] [v] pos) (tEvF (ct N X) (ev cl call (.op .dct1 [ik, iv]))) := ⟨fun pins s σ H Q I ⟨Z0, ρ, h, env, hr, er, q⟩ => by
 have sh : ∃ kw vw h1 h2, ev cl call ik env h = .ok (.w kw) h1 ∧ ev cl call iv env h1 = .ok (.w vw) h2 ∧ keyOk 8 kw = true ∧ EF (ct N X) Z0 ρ h H Q (.ok (.w (.dct [kw] [vw])) h2) := by
  unfold ev at q
  unfold evs at q
  cases e1 : ev cl call ik env h with
  | ex c v => rw [e1] at q; exact q.elim
  | no => rw [e1] at q; exact q.elim
  | ok r1 h1 =>
   rw [e1] at q
   dsimp only at q
   unfold evs at q
   cases e2 : ev cl call iv env h1 with
   | ex c v => rw [e2] at q; exact q.elim
   | no => rw [e2] at q; exact q.elim
   | ok r2 h2 =>
    rw [e2] at q
    cases r1 with
    | loc l => cases r2 <;> exact q.elim
    | w kw =>
     cases r2 with
     | loc l => exact q.elim
     | w vw =>
      have q : EF (ct N X) Z0 ρ h H Q (opR .dct1 [.w kw, .w vw] h2) := q
      have e3 : opR .dct1 [.w kw, .w vw] h2 = match op_dct1 [kw, vw] with | some w => .ok (.w w) h2 | none => .no := rfl
      rw [e3] at q
      unfold op_dct1 at q
      by_cases hk : keyOk 8 kw = true
      case neg => simp only [hk] at q; exact q.elim
      simp only [hk, if_true] at q
      exact ⟨kw, vw, h1, h2, rfl, e2, hk, q⟩
 obtain ⟨kw, vw, h1, h2, e1, e2, hk, q⟩ := sh
 have hn : H s.heap.objs.size = none := I.hok.fresh (Nat.le_refl _)
 have I1 := I.laid (a := s.heap.objs.size) (o := dictO X.w s.heap.objs.size dOb [] [] []) (t' := s.toks) (fun _ _ q => Heap.get?_push_of_some _ q) (Nat.le_refl _) (dict_ok (P.dict0 I.big))
 refine wpAny_Dict_any rfl rfl (by simp) (by simp) ?_
 generalize hD : s.heap.objs.size = D at hn I1
 have n : ¬ Z0 D := fun z => by obtain ⟨o, q⟩ := hr.zd D z; rw [hn] at q; cases q
 have hp : pairsPut [kw, vw] [] [] = some ([kw], [vw]) := by
  rw [pairsPut, if_pos (by rw [hk]; rfl), pairsPut]
  rfl
 have T : tr1 X.w (ct N X) D (tEv (ct N X) (ev cl call ik)) (tEv (ct N X) (ev cl call iv)) σ (upd H D (dictO X.w D dOb [] [] [])) (Q (.ref D)) :=
  rest_D (total := [kw, vw]) hp σ ρ h _ env [] [kw, vw] [] h2 _ (hr.freshP hn) ⟨[], [], [], [], rfl, ⟨_, upd_same⟩, by unfold VRs; rfl, by unfold VRs; rfl⟩ (er.exz (zp_fresh hn) (Ex.fresh hr hn))
   (by unfold kvK; rw [e1]; unfold asW; dsimp only; rw [e2]; rfl) rfl fun ρ' H' x hr' ⟨ks, us, kv, vv, p, hD', r1, r2⟩ => by
    rw [List.nil_append, hp] at p
    cases p
    exact q ρ' H' D kv vv ((((Ex.fresh hr hn).d (zp_fresh hn)).trans x).ex hn) hn n hr' hD' r1 r2
 have h1 := pk.run pins _ σ _ _ I1 T
 rw [hx] at h1 ⊢
 refine PySem.evalPairs_cons (thnF h1 fun u1 s1 ⟨y, H1, I2, ry, q1⟩ => ?_)
 have h2 := pv.run pins s1 σ H1 _ I2 q1
 rw [hx] at h2
 refine wpAny_bind (thnF h2 fun u2 s2 ⟨z, H2, I3, rz, q2⟩ => wpAny_bind (wpAny_standAt (wpAny_pure (PySem.evalPairs_nil ?_))))
 unfold storeAll
 refine wpAny_bind (wpAny_bind (thnF (set_put (N := N) hu I3 ry rz q2) fun _ s3 ⟨H3, I4, q3⟩ => wpAny_pure ?_))
 exact wpAny_pure ⟨V.ref D, H3, I4, rfl, q3⟩⟩
end
namespace P
section
variable {X : Cx} {N : Nm} {cl : Tf.Cls} {call : Call} {o e k v : Expr} {io ie ik iv : E} {ies : List E} {es : List Expr} {apos cpos pos : Pos} {kk : Nat} {name : String}
theorem dct1F (hu : X.A.units + 64 < cLine) (pk : PE X k (tEv (ct N X) (ev cl call ik))) (pv : PE X v (tEv (ct N X) (ev cl call iv))) (hx : X.xe = NoE := by rfl) : PE X (.Dict [some k] [v] pos) (tEvF (ct N X) (ev cl call (.op .dct1 [ik, iv]))) := by grind [sf_dct1]
theorem dct1_shape : ∀ env h r h', ev cl call (.op .dct1 [ik, iv]) env h = .ok r h' -> (∃ ws, r = .w (.lst ws)) ∨ ∃ ks us, r = .w (.dct ks us) := by
 intro env h r h' q
 unfold ev at q
 split at q
 ·rename_i rs h2 _
  have q : opR .dct1 rs h2 = .ok r h' := q
  unfold opR at q
  split at q
  ·rename_i ws _
   split at q
   ·rename_i w e
    have e : op_dct1 ws = some w := e
    unfold op_dct1 at e
    split at e
    ·split at e
     ·cases e; injection q with q _; exact .inr ⟨_, _, q.symm⟩
     ·cases e
    ·cases e
   ·cases q
  ·cases q
 ·cases q
 ·cases q
theorem dct1 (hu : X.A.units + 64 < cLine) (pk : PE X k (tEv (ct N X) (ev cl call ik))) (pv : PE X v (tEv (ct N X) (ev cl call iv))) (hx : X.xe = NoE := by rfl) : PE X (.Dict [some k] [v] pos) (tEv (ct N X) (ev cl call (.op .dct1 [ik, iv]))) := se_fr (dct1F hu pk pv hx) dct1_shape
section
variable (hr : RoomG kk X.A) (ho : PE X o (tEv (ct N X) (ev cl call io))) (ha : PA X (e :: es) (tEvs (ct N X) (evs cl call ies)))
include hr ho ha
end
end
end P
end Tf
namespace Tf
open PySem L2 PyProof.Rows
section
variable {X : Cx} {N : Nm} {cl : Cls} {call : Call} {a : Expr} {ia : E} {n : Str} {xs : List Str} {ws : List W} {pos p : Pos}
end
section
variable {X : Cx} {N : Nm} {cl : Cls} {call : Call} {a : Expr} {ia : E}
theorem is_true_bl {M : Model} {A : Around} {E : Value -> Shared -> Prop} {s : Shared} {Q : Value -> Shared -> Prop} {b : Bool} (h : Q (.bool b) s) : wpAny M A (compareOp .Is (.bool b) (.bool true)) Q E s := by
 cases b with
 | true => exact wpAny_is_self rfl h
 | false => exact wpAny_is_other rfl (by intro z; cases z) h
theorem is_true_non {M : Model} {A : Around} {E : Value -> Shared -> Prop} {s : Shared} {Q : Value -> Shared -> Prop} (h : Q (.bool false) s) : wpAny M A (compareOp .Is .none (.bool true)) Q E s := wpAny_is_other rfl (by intro z; cases z) h
theorem sc_isT {j pos'} (p : PE X a (tEv (ct N X) (ev cl call ia))) : PC X .Is a (.Constant (.bool true) j pos') (tEv (ct N X) (ev cl call (.op .isT [ia]))) :=
 ⟨fun pins s σ H Q I t => by
  obtain ⟨Z0, ρ, h, env, hr, er, q⟩ := t
  unfold ev at q
  unfold evs at q
  cases e1 : ev cl call ia env h with
  | ex c v => rw [e1] at q; exact q.elim
  | no => rw [e1] at q; exact q.elim
  | ok r h1 =>
   rw [e1] at q
   refine thn (p.run pins s σ H _ I (tEv.bind hr er e1 fun H1 ρ1 v n1 rr => (⟨ρ1, n1, rr⟩ : ∃ ρ1, Nx (ct N X) Z0 ρ h H env σ H1 ρ1 h1 ∧ RR (ct N X) H1 (Av ρ1 h1 Z0) ρ1 r v))) fun v s1 ⟨x, H1, I1, r1, ρ1, n1, rr⟩ => ?_
   refine Constant_bool ?_
   cases r with
   | loc l => exact q.elim
   | w w =>
    cases w with
    | bl b =>
     have := rr_bl rr
     subst this
     cases r1
     exact is_true_bl ⟨.bl b, H1, I1, rfl, EQ.bl q n1.ex n1.hr⟩
    | non =>
     have := rr_non rr
     subst this
     cases r1
     exact is_true_non ⟨.bl false, H1, I1, rfl, EQ.bl q n1.ex n1.hr⟩
    | _ => exact q.elim⟩
theorem P.isT {j pos' pos} (p1 : PE X a (tEv (ct N X) (ev cl call ia))) : PE X (.Compare a [.Is] [.Constant (.bool true) j pos'] pos) (tEv (ct N X) (ev cl call (.op .isT [ia]))) := pe_cmp (sc_isT p1) (by rfl)
end
namespace P
section
variable {X : Cx} {N : Nm} {cl : Tf.Cls} {call : Call} {a : Expr} {ia : E} {n : Str} {xs : List Str} {ws : List W} {pos p : Pos}
theorem dct0_shape : ∀ env h r h', ev cl call (.op .dct0 []) env h = .ok r h' -> (∃ ws, r = .w (.lst ws)) ∨ ∃ ks us, r = .w (.dct ks us) := by
 intro env h r h' q
 injection q with q _
 exact .inr ⟨[], [], q.symm⟩
theorem dct0 : PE X (.Dict [] [] pos) (tEv (ct N X) (ev cl call (.op .dct0 []))) := se_fr sf_dct0 dct0_shape
end
section
variable {X : Cx} {N : Nm} {cl : Tf.Cls} {call : Call} {fuel : Nat}
variable {elt tg iter tg1 iter1 kx vx : Expr} {ifs ifs1 : List Expr} {ie ik iv : E} {its cs its1 cs1 : List E} {pos spos py : Pos} {scope : Scope} {t t1 : T} {k kk : IK} {i : Nat} {y : Str}
end
end P
end Tf
namespace Tf
open PySem L2 PyProof.Rows
section
variable {X : Cx} {N : Nm} {cl : Cls} {call : Call} {fuel : Nat}
end
end Tf
namespace Tf
open PySem L2 PyProof.Rows
open Classical in
section
variable {H : Hp} {S : Addr} {as : List Addr} {kv vv : List V} {ob : Nat -> Obj}
end
section
variable {X : Cx} {N : Nm} {cl : Cls} {call : Call} {e : Expr} {ie : E} {p apos cpos pos : Pos}
end
section
variable {X : Cx} {N : Nm} {cl : Cls} {call : Call} {a b : Expr} {ia ib : E} {pos : Pos}
end
end Tf
namespace Tf
open PySem L2 PyProof.Rows
section
variable {X : Cx} {N : Nm} {cl : Tf.Cls} {call : Call} {fuel : Nat}
theorem ss_aug {i : Nat} {x : Str} {e : Expr} {op : Operator} {o : Op} {ie : E} {pos pos' : Pos} (k : OpR X (inplaceOp op) (rOpR (ct N X) o)) (hN : X.N.Nodup) (hi : X.N[i]? = some x) (hx : Loc X.env.scope x)
  (p : PE X e (tEv (ct N X) (ev cl call ie))) (hf : X.fn x = true ∨ X.env.scope.names.lookup x = some .local) : PS X (.AugAssign (.Name x pos') op e pos) (tEx (ct N X) (exec cl call fuel (.aug i o ie))) :=
 ⟨fun pins s σ H D I q => (ps_aug (ti := rOpR (ct N X) o) hN hi hx p (fun pins s σ H x y v u Q I r1 r2 t => k pins s σ H x y v u Q I r1 r2 t) hf).run pins s σ H D I (by
  have li : i < σ.length := by rw [I.len]; exact (List.getElem?_eq_some_iff.mp hi).1
  obtain ⟨Z0, ρ, h, env, hr, er, q⟩ := q
  unfold exec at q
  cases e0 : env[i]? with
  | none => rw [e0] at q; exact q.elim
  | some o0 =>
   cases o0 with
   | none => rw [e0] at q; exact q.elim
   | some r0 =>
    rw [e0] at q
    obtain ⟨v0, ev0, rr0⟩ := er i r0 e0
    refine ⟨v0, ev0, Z0, ρ, h, env, hr, er, ?_⟩
    cases e : ev cl call ie env h with
    | ex c v => rw [e] at q; exact q.elim
    | no => rw [e] at q; exact q.elim
    | ok r h1 =>
     rw [e] at q
     intro ρ' H' v ex hr' rr
     refine ⟨Z0, ρ', h1, r0, r, hr', RR.ex ex rr0, rr, ?_⟩
     dsimp only at q
     cases e2 : opR o [r0, r] h1 with
     | ex c v => rw [e2] at q; exact q.elim
     | no => rw [e2] at q; exact q.elim
     | ok r2 h2 =>
      rw [e2] at q
      intro ρ2 H2 v2 ex2 hr2 rr2
      refine q ρ2 H2 _ (ex.trans ex2) hr2 ?_
      exact (er.ex (ex.trans ex2)).set rr2 li)⟩
theorem P.aug {i : Nat} {x : Str} {e : Expr} {op : Operator} {o : Op} {ie : E} {pos pos' : Pos} (hN : X.N.Nodup) (k : OpR X (inplaceOp op) (rOpR (ct N X) o)) (p : PE X e (tEv (ct N X) (ev cl call ie))) (hi : X.N[i]? = some x := by rfl)
  (hx : Loc X.env.scope x := by first | exact Or.inl rfl | exact Or.inr rfl) (hf : X.fn x = true ∨ X.env.scope.names.lookup x = some .local := by first | exact .inl rfl | exact .inr rfl) :
  PS X (.AugAssign (.Name x pos') op e pos) (tEx (ct N X) (exec cl call fuel (.aug i o ie))) := by simp_all [ss_aug]
end
end Tf
namespace Tf
open PySem L2 PyProof.Rows
section
variable {X : Cx} {N : Nm} {cl : Cls} {call : Call} {fuel : Nat}
end
end Tf
namespace Tf
open PySem L2 PyProof.Rows
section
variable {X : Cx} {N : Nm} {cl : Cls} {call : Call} {a b : Expr} {ia ib : E} {pos : Pos}
end
section
variable {X : Cx} {N : Nm} {cl : Cls} {call : Call} {fuel : Nat} {t : T} {k : IK} {its cs : List E} {ie : E} {tg iter elt : Expr} {ifs : List Expr} {scope : Scope} {pos spos : Pos}
end
end Tf
namespace Tf
open PySem L2 PyProof.Rows
section
variable {X : Cx} {N : Nm} {cl : Tf.Cls} {call : Call} {a : Expr} {ia : E} {pos p : Pos}
def rE (b : Bool) : R2 := fun x y H Q => ∃ a c vs, x = .ref a ∧ y = .ref c ∧ H a = some (.lst vs) ∧ H c = some (.lst []) ∧ Q (.bl (if b then !vs.isEmpty else vs.isEmpty)) H
theorem op_E {b : Bool} {f : CmpOp} (hf : f = if b then .NotEq else .Eq) (hu : X.A.units < cLine) : OpR X (compareOp f) (rE b) := by
 rintro pins s σ H x y v u Q I rx ry ⟨a, c, vs, rfl, rfl, ha, hc, q⟩
 cases rx
 cases ry
 obtain ⟨its, rv, ⟨o, m, ho, hc1, hdn, hd⟩, _⟩ := I.list (.of ha)
 obtain ⟨its2, rv2, ⟨o2, m2, ho2, hc2, hdn2, hd2⟩, _⟩ := I.list (.of hc)
 cases rv2
 have l1 : s.heap.IsList a its.toArray := ⟨o, ho, hc1, m, hd⟩
 have l2 : s.heap.IsList c (([] : List Value).toArray) := ⟨o2, ho2, hc2, m2, hd2⟩
 cases rv with
 | nil =>
  cases b with
  | false => subst hf; exact PySem.SeqAt.RcAt.lists (e := fun _ => true) l1 l2 rfl hu (fun j h1 h2 => absurd h1 (by simp)) _ _ _ _ ⟨.bl true, H, I, rfl, q⟩
  | true => subst hf; exact PySem.SeqAt.RcNeAt.lists (e := fun _ => true) l1 l2 rfl hu (fun j h1 h2 => absurd h1 (by simp)) _ _ _ _ ⟨.bl false, H, I, rfl, q⟩
 | cons r rs =>
  cases b with
  | false => subst hf; exact PySem.SeqAt.RcAt.lists_lengths l1 l2 (by simp) hu _ _ _ _ ⟨.bl false, H, I, rfl, q⟩
  | true => subst hf; exact PySem.SeqAt.RcNeAt.lists_lengths l1 l2 (by simp) hu _ _ _ _ ⟨.bl true, H, I, rfl, q⟩
def opE (b : Bool) : Op := if b then .neE else .eqE
theorem vrs_nil {C : Ct} {H : Hp} {Z : Addr -> Prop} {vs : List V} (q : VRs C H Z [] vs) : vs = [] := by unfold VRs at q; exact q
theorem lst0 {env : Env} {h : Hh} : ev cl call (.op .lst []) env h = .ok (.w (.lst [])) h := by unfold ev evs; rfl
theorem tE_op {b : Bool} {o : Op} (ho : o = opE b) {σ : Sg} {H : Hp} {Q : VK} (t : tEv (ct N X) (ev cl call (.op o [ia])) σ H Q) : tOp (rE b) (tEv (ct N X) (ev cl call ia)) (tEv (ct N X) (ev cl call (.op .lst []))) σ H Q := by
 obtain ⟨Z0, ρ, h, env, hr, er, q⟩ := t
 unfold ev at q
 unfold evs at q
 cases e1 : ev cl call ia env h with
 | ex c v => rw [e1] at q; exact q.elim
 | no => rw [e1] at q; exact q.elim
 | ok r h1 =>
  rw [e1] at q
  simp only [evs] at q
  refine tEv.bind hr er e1 fun H1 ρ1 v n1 rr => ?_
  refine tEv.bind n1.hr n1.er lst0 fun H2 ρ2 v2 n2 rr2 => ?_
  obtain ⟨c, us, rfl, hc, nc, e0⟩ := seq_vr (rr_w rr2)
  cases vrs_nil e0
  have rr := RR.ex n2.ex rr
  cases r with
  | w w =>
   cases w with
   | lst ws =>
    obtain ⟨d, vs, rfl, hd, nd, rv⟩ := seq_vr (rr_w rr)
    have hl := vrs_len rv
    refine ⟨d, c, vs, rfl, rfl, hd, hc, ?_⟩
    have e : vs.isEmpty = ws.isEmpty := by cases vs <;> cases ws <;> simp_all
    rw [e]
    cases b <;> subst ho <;> exact EQ.bl q (n1.ex.trans n2.ex) n2.hr
   | _ => cases b <;> subst ho <;> exact q.elim
  | loc l =>
   obtain ⟨pa, ea, rfl⟩ := rr
   have q : EQ (ct N X) Z0 ρ h H Q (match (match h1[l]? with | some (.lst rs) => some (R.w (.bl (if b then !rs.isEmpty else rs.isEmpty)), h1) | _ => none) with | some (r, h') => .ok r h' | none => .no) := by
    cases b <;> subst ho <;> exact q
   cases eo : h1[l]? with
   | none => rw [eo] at q; exact q.elim
   | some ob =>
    rw [eo] at q
    cases ob with
    | lst rs =>
     obtain ⟨vs, hd, rl⟩ := n2.hr.ob l _ pa eo ea (by intro z; cases z)
     have hl := rrs_len rl
     refine ⟨pa, c, vs, rfl, rfl, hd, hc, ?_⟩
     have e : vs.isEmpty = rs.isEmpty := by cases vs <;> cases rs <;> simp_all
     rw [e]
     exact EQ.bl q (n1.ex.trans n2.ex) n2.hr
    | _ => exact q.elim
theorem P.eqE (hu : X.A.units + 64 < cLine) (p1 : PE X a (tEv (ct N X) (ev cl call ia))) : PE X (.Compare a [.Eq] [.List [] p] pos) (tEv (ct N X) (ev cl call (.op .eqE [ia]))) :=
 PE.imp (pe_cmpR (op_E (b := false) rfl (by omega)) p1 (P.lst P.anil) (by rfl)) fun _ _ _ q => tE_op (b := false) rfl q
theorem P.neE (hu : X.A.units + 64 < cLine) (p1 : PE X a (tEv (ct N X) (ev cl call ia))) : PE X (.Compare a [.NotEq] [.List [] p] pos) (tEv (ct N X) (ev cl call (.op .neE [ia]))) :=
 PE.imp (pe_cmpR (op_E (b := true) rfl (by omega)) p1 (P.lst P.anil) (by rfl)) fun _ _ _ q => tE_op (b := true) rfl q
def isC (n : Bool) : CmpOp := if n then .IsNot else .Is
theorem is_bv {M : Model} {A : Around} {E : Value -> Shared -> Prop} {s : Shared} {Q : Value -> Shared -> Prop} {n b c : Bool} (h : Q (.bool (n != (b == c))) s) : wpAny M A (compareOp (isC n) (.bool b) (.bool c)) Q E s := by
 cases n <;> cases b <;> cases c <;> first | exact wpAny_is_self rfl h | exact wpAny_is_other rfl (by intro z; cases z) h | exact wpAny_isNot_self rfl h | exact wpAny_isNot_other rfl (by intro z; cases z) h
theorem is_nv {M : Model} {A : Around} {E : Value -> Shared -> Prop} {s : Shared} {Q : Value -> Shared -> Prop} {n c : Bool} (h : Q (.bool n) s) : wpAny M A (compareOp (isC n) .none (.bool c)) Q E s := by
 cases n <;> first | exact wpAny_is_other rfl (by intro z; cases z) h | exact wpAny_isNot_other rfl (by intro z; cases z) h
theorem sc_isB {n c : Bool} {o : Op} {j pos'} (h1 : ∀ b, opW o [.bl b] = some (.bl (n != (b == c)))) (h2 : opW o [.non] = some (.bl n)) (h3 : ∀ w, (∀ b, w ≠ .bl b) -> w ≠ .non -> opW o [w] = none) (h4 : ∀ l h, opH o [.loc l] h = none) (h5 : ∀ rs h, opC cl call o rs h = opR o rs h)
  (p : PE X a (tEv (ct N X) (ev cl call ia))) : PC X (isC n) a (.Constant (.bool c) j pos') (tEv (ct N X) (ev cl call (.op o [ia]))) :=
 ⟨fun pins s σ H Q I t => by
  obtain ⟨Z0, ρ, h, env, hr, er, q⟩ := t
  unfold ev at q
  unfold evs at q
  cases e1 : ev cl call ia env h with
  | ex c v => rw [e1] at q; exact q.elim
  | no => rw [e1] at q; exact q.elim
  | ok r h1' =>
   rw [e1] at q
   simp only [evs] at q
   rw [h5] at q
   refine thn (p.run pins s σ H _ I (tEv.bind hr er e1 fun H1 ρ1 v n1 rr => (⟨ρ1, n1, rr⟩ : ∃ ρ1, Nx (ct N X) Z0 ρ h H env σ H1 ρ1 h1' ∧ RR (ct N X) H1 (Av ρ1 h1' Z0) ρ1 r v))) fun v s1 ⟨x, H1, I1, r1, ρ1, n1, rr⟩ => ?_
   refine Constant_bool ?_
   cases r with
   | loc l =>
    have e : opR o [.loc l] h1' = match opH o [.loc l] h1' with | some (r, h') => .ok r h' | none => .no := rfl
    rw [e, h4] at q
    exact q.elim
   | w w =>
    have e : opR o [.w w] h1' = match opW o [w] with | some w => .ok (.w w) h1' | none => .no := rfl
    rw [e] at q
    by_cases hb : ∃ b, w = .bl b
    ·obtain ⟨b, rfl⟩ := hb
     have := rr_bl rr
     subst this
     cases r1
     rw [h1] at q
     exact is_bv ⟨.bl _, H1, I1, rfl, EQ.bl q n1.ex n1.hr⟩
    ·by_cases hn : w = .non
     ·subst hn
      have := rr_non rr
      subst this
      cases r1
      rw [h2] at q
      exact is_nv ⟨.bl _, H1, I1, rfl, EQ.bl q n1.ex n1.hr⟩
     ·rw [h3 w (fun b z => hb ⟨b, z⟩) hn] at q
      exact q.elim⟩
theorem P.notT {j pos'} (p1 : PE X a (tEv (ct N X) (ev cl call ia))) : PE X (.Compare a [.IsNot] [.Constant (.bool true) j pos'] pos) (tEv (ct N X) (ev cl call (.op .notT [ia]))) :=
 pe_cmp (sc_isB (n := true) (c := true) (by intro b; cases b <;> rfl) rfl (by intro w h1 h2; cases w <;> first | rfl | exact absurd rfl (h1 _) | exact absurd rfl h2) (fun _ _ => rfl) (fun _ _ => rfl) p1) (by rfl)
theorem P.isF {j pos'} (p1 : PE X a (tEv (ct N X) (ev cl call ia))) : PE X (.Compare a [.Is] [.Constant (.bool false) j pos'] pos) (tEv (ct N X) (ev cl call (.op .isF [ia]))) :=
 pe_cmp (sc_isB (n := false) (c := false) (by intro b; cases b <;> rfl) rfl (by intro w h1 h2; cases w <;> first | rfl | exact absurd rfl (h1 _) | exact absurd rfl h2) (fun _ _ => rfl) (fun _ _ => rfl) p1) (by rfl)
theorem P.notF {j pos'} (p1 : PE X a (tEv (ct N X) (ev cl call ia))) : PE X (.Compare a [.IsNot] [.Constant (.bool false) j pos'] pos) (tEv (ct N X) (ev cl call (.op .notF [ia]))) :=
 pe_cmp (sc_isB (n := true) (c := false) (by intro b; cases b <;> rfl) rfl (by intro w h1 h2; cases w <;> first | rfl | exact absurd rfl (h1 _) | exact absurd rfl h2) (fun _ _ => rfl) (fun _ _ => rfl) p1) (by rfl)
end
section
variable {X : Cx} {N : Nm} {cl : Tf.Cls} {call : Call}
def iOb (C : Ct) (x : Env -> Hh -> Res R) : TI := fun σ H Rr => ∃ Z0 ρ h env, HR C Z0 ρ h H ∧ ER C H (Av ρ h Z0) ρ env σ ∧ match x env h with
 | .ok (.loc l) h1 => (match h1[l]? with
  | some (.lst rs) => ∀ ρ1 H1 a, Ex ρ h H ρ1 h1 H1 -> HR C Z0 ρ1 h1 H1 -> ρ1[l]? = some a -> Rr (Itl C.K a) H1
  | _ => False)
 | _ => False
theorem si_ob {tg e : Expr} {ie : E} (p : PE X e (tEv (ct N X) (ev cl call ie))) : PI X tg e (iOb (ct N X) (ev cl call ie)) :=
 ⟨fun pins s σ H Rr I q => by
  obtain ⟨Z0, ρ, h, env, hr, er, q⟩ := q
  split at q
  case h_2 => exact q.elim
  rename_i l h1 e0
  split at q
  case h_2 => exact q.elim
  rename_i rs eo
  refine (pi_list p).run pins s σ H Rr I (tEv.bind hr er e0 fun H1 ρ1 v n1 rr => ?_)
  obtain ⟨a, ea, hx⟩ := rr
  obtain ⟨vs, e4, rv⟩ := n1.hr.ob l _ a eo ea (by intro z; cases z)
  exact ⟨a, hx, ⟨vs, .of e4⟩, q ρ1 H1 a n1.ex n1.hr ea⟩⟩
def lcBO (cs : List E) (e : E) : Env -> Hh -> Res (List R) := fun env' h2 => match tests cl call cs env' h2 with
 | .ok true h3 => asR (ev cl call e env' h3)
 | .ok false h3 => .ok [] h3
 | _ => .no
theorem asR_ok {x : Res R} {ws : List R} {h' : Hh} (e : asR x = .ok ws h') : ∃ w, x = .ok w h' ∧ ws = [w] := by
 unfold asR at e
 split at e <;> simp_all
theorem RR.exz {C : Ct} {H H' : Hp} {Z0 Z1 : Addr -> Prop} {ρ ρ' : List Addr} {h h' : Hh} (k : ∀ b, Z1 b -> Z0 b ∨ H b = none) (x : Ex ρ h H ρ' h' H') : ∀ {r : R} {v : V}, RR C H (Av ρ h Z0) ρ r v -> RR C H' (Av ρ' h' Z1) ρ' r v
 | .w w, v, r => VR.exz k x r
 | .loc n, v, ⟨a, e, r⟩ => ⟨a, x.get e, r⟩
theorem lcO_turns {C : Ct} {rs xs : List R} {l : Nat} {a : Addr} {Z0 : Addr -> Prop} {ρ1 : List Addr} {h1 h4 : Hh} {H1 : Hp} {t : T} {cs : List E} {e : E} {σ : Sg} {env : Env} {vs : List Nat} {D : Addr} {Qd : Hp -> Prop} (ea : ρ1[l]? = some a) (hr : HR C Z0 ρ1 h1 H1) (er : ER C H1 (Av ρ1 h1 Z0) ρ1 env σ)
  (hd : H1 D = none) (k1 : ∀ i ∈ vs, i ∈ slotsT t) (k2 : ∀ i ∈ slotsT t, i ∈ vs) (hl : lcLoopO t (Tf.wipe (slotsT t) env) [(l, .lst rs)] (lcBO (cl := cl) (call := call) cs e) rs h1 = .ok xs h4) (hz : xs.length <= sizeMax)
  (q : ∀ ρ' H' acc, Ex ρ1 h1 H1 ρ' h4 H' -> HR C (Zp Z0 D) ρ' h4 H' -> H' D = some (.lst acc) -> RRs C H' (Av ρ' h4 (Zp Z0 D)) ρ' xs acc -> Qd H') :
  ∃ W : Nat -> Nat -> Hp -> Prop, (∃ m, W 0 m (upd H1 D (.lst []))) ∧ ∀ i m H, W i m H ->
   ((Itl C.K a).stop i H ∧ Qd H) ∨ ((Itl C.K a).go i H ∧ ∃ Nn : Hp -> Prop, (∀ H', Nn H' -> ∃ m', m' < m ∧ W (i + 1) m' H') ∧ ∀ x H', (Itl C.K a).yld i H x H' -> gT C t x (L2.wipe σ vs) H' fun σ2 H2 => L2.wipe σ2 vs = L2.wipe σ vs ∧ tTs C (tests cl call cs) σ2 H2 fun b H3 =>
    if b = true then tEv C (ev cl call e) σ2 H3 fun y H4 => ∃ acc, H4 D = some (.lst acc) ∧ acc.length < sizeLine ∧ Nn (upd H4 D (.lst (acc ++ [y]))) else Nn H3) := by
 have kz : ∀ b, Zp Z0 D b -> Z0 b ∨ H1 b = none := fun b z => z.imp id fun z => by rw [z]; exact hd
 let P : Nat -> Hp -> Prop := fun i H => ∃ ρ' h' acc done ys, Ex ρ1 h1 H1 ρ' h' H ∧ HR C (Zp Z0 D) ρ' h' H ∧ H D = some (.lst acc) ∧ RRs C H (Av ρ' h' (Zp Z0 D)) ρ' done acc ∧ lcLoopO t (Tf.wipe (slotsT t) env) [(l, .lst rs)] (lcBO (cl := cl) (call := call) cs e) (rs.drop i) h' = .ok ys h4 ∧ done ++ ys = xs
 refine ⟨fun i m H => m = rs.length - i ∧ i <= rs.length ∧ P i H, ⟨rs.length, by simp, Nat.zero_le _, ρ1, h1, [], [], xs, Ex.fresh hr hd, hr.freshP hd, upd_same, rfl, by simpa using hl, rfl⟩, ?_⟩
 rintro i m H ⟨rfl, hi, ρ', h', acc, done, ys, ex, hr', hD, rv, hl, hx⟩
 have go : still h' [(l, .lst rs)] = true -> ∃ us, H a = some (.lst us) ∧ RRs C H (Av ρ' h' (Zp Z0 D)) ρ' rs us := fun hs => by
  have e2 : h'[l]? = some (.lst rs) := still_mem hs (l, .lst rs) (by simp)
  exact hr'.ob l _ a e2 (ex.get ea) (by intro z; cases z)
 by_cases hlt : i < rs.length
 ·have hdr : rs.drop i = rs[i] :: rs.drop (i + 1) := List.drop_eq_getElem_cons hlt
  rw [hdr] at hl
  unfold lcLoopO at hl
  split at hl
  case isFalse => cases hl
  rename_i hs
  obtain ⟨us, eus, rus⟩ := go hs
  obtain ⟨v0, hv0, rv0⟩ := rrs_get rus (i := i) (w := rs[i]) (by simp [hlt])
  cases es : setT t rs[i] (Tf.wipe (slotsT t) env) with
  | none => rw [es] at hl; cases hl
  | some env1 =>
   rw [es] at hl
   dsimp only at hl
   refine .inr ⟨⟨us, v0, .of eus, hv0⟩, P (i + 1), fun H' p => ⟨rs.length - (i + 1), by omega, rfl, hlt, p⟩, fun x H' y => ?_⟩
   obtain ⟨y1, y2⟩ := y
   subst y1
   have y3 := y2 us (.of eus)
   rw [hv0] at y3
   cases y3
   have er2 := (ER.exz kz ex er).wipe k1
   refine ⟨_, ρ', _, rs[i], env1, er2, .inl rv0, es, fun σ2 er3 sm => ⟨?_, ?_⟩⟩
   ·rw [(Sm.sub sm k2).wipe]
    exact Sm.wiped.wipe
   ·refine ⟨_, ρ', h', env1, hr', er3, ?_⟩
    cases et : tests cl call cs env1 h' with
    | ex c v => simp only [lcBO, et] at hl; cases hl
    | no => simp only [lcBO, et] at hl; cases hl
    | ok b h3 =>
     intro ρ3 H3 ex3 hr3
     have hD3 : H3 D = some (.lst acc) := (ex3.fr D _ hD (hr'.notLive (.inr rfl))).1
     have rv3 := RRs.ex ex3 rv
     cases b with
     | false =>
      rw [if_neg (by decide)]
      simp only [lcBO, et] at hl
      cases el : lcLoopO t (Tf.wipe (slotsT t) env) [(l, .lst rs)] (lcBO (cl := cl) (call := call) cs e) (rs.drop (i + 1)) h3 with
      | ex c v => rw [el] at hl; cases hl
      | no => rw [el] at hl; cases hl
      | ok zs h5 =>
       rw [el] at hl
       injection hl with hl1 hl2
       subst hl2
       refine ⟨ρ3, h3, acc, done, zs, ex.trans ex3, hr3, hD3, rv3, el, ?_⟩
       rw [<- hx, <- hl1]; rfl
     | true =>
      rw [if_pos rfl]
      refine ⟨_, ρ3, h3, env1, hr3, er3.ex ex3, ?_⟩
      simp only [lcBO, et] at hl
      cases ee : asR (ev cl call e env1 h3) with
      | ex c v => rw [ee] at hl; cases hl
      | no => rw [ee] at hl; cases hl
      | ok us2 h5 =>
       obtain ⟨w, ew, rfl⟩ := asR_ok ee
       rw [ee] at hl
       dsimp only at hl
       rw [ew]
       intro ρ4 H4 yv ex4 hr4 ry
       have hD4 : H4 D = some (.lst acc) := (ex4.fr D _ hD3 (hr3.notLive (.inr rfl))).1
       have rv4 := RRs.ex ex4 rv3
       cases el : lcLoopO t (Tf.wipe (slotsT t) env) [(l, .lst rs)] (lcBO (cl := cl) (call := call) cs e) (rs.drop (i + 1)) h5 with
       | ex c v => rw [el] at hl; cases hl
       | no => rw [el] at hl; cases hl
       | ok zs h6 =>
        rw [el] at hl
        injection hl with hl1 hl2
        subst hl2
        have hlen := rrs_len rv4
        refine ⟨acc, hD4, ?_, ρ4, h5, acc ++ [yv], done ++ [w], zs, ((ex.trans ex3).trans ex4).updN hd, hr4.updZ (.inr rfl) hD4 noT_lst, upd_same, ?_, el, ?_⟩
        ·have h5 : xs.length = done.length + ys.length := by rw [<- hx, List.length_append]
         have h6 : ys.length = 1 + zs.length := by rw [<- hl1, List.length_append]; rfl
         have := sz_line hz
         omega
        ·exact RRs.upd hD4 noT_lst (.inr (.inr rfl)) (rrs_app rv4 ⟨yv, [], rfl, ry, rfl⟩)
        ·rw [<- hx, <- hl1, List.append_assoc]
 ·have ei : i = rs.length := by omega
  subst ei
  rw [List.drop_eq_nil_of_le (Nat.le_refl _)] at hl
  unfold lcLoopO at hl
  split at hl
  case isFalse => cases hl
  rename_i hs
  obtain ⟨us, eus, rus⟩ := go hs
  injection hl with hl1 hl2
  subst hl1 hl2
  rw [List.append_nil] at hx
  subst hx
  exact .inl ⟨⟨us, .of eus, by rw [rrs_len rus]; exact Nat.le_refl _⟩, q ρ' H acc ex hr' hD rv⟩
theorem lcO_of {t : T} {it e : E} {cs : List E} {vs : List Nat} {C : Ct} (k1 : ∀ i ∈ vs, i ∈ slotsT t) (k2 : ∀ i ∈ slotsT t, i ∈ vs) {σ : Sg} {H : Hp} {Q : VK} (q : tEv C (ev cl call (.lcO t it cs e)) σ H Q) :
  tLc (iOb C (ev cl call it)) (gT C t) (tTs C (tests cl call cs)) (tEv C (ev cl call e)) vs σ H Q := by
 obtain ⟨Z0, ρ, h, env, hr, er, q⟩ := q
 refine ⟨Z0, ρ, h, env, hr, er, ?_⟩
 unfold ev at q
 cases e1 : ev cl call it env h with
 | ex c v => rw [e1] at q; exact q.elim
 | no => rw [e1] at q; exact q.elim
 | ok r h1 =>
  rw [e1] at q
  cases r with
  | w w => exact q.elim
  | loc l =>
   dsimp only at q ⊢
   cases eo : h1[l]? with
   | none => rw [eo] at q; exact q.elim
   | some ob =>
    rw [eo] at q
    cases ob with
    | lst rs =>
     dsimp only at q ⊢
     have q : EQ C Z0 ρ h H Q (match lcLoopO t (Tf.wipe (slotsT t) env) [(l, .lst rs)] (lcBO (cl := cl) (call := call) cs e) rs h1 with
      | .ok xs h4 => if xs.length <= sizeMax then .ok (.loc h4.length) (h4 ++ [.lst xs]) else .no
      | _ => .no) := q
     cases e3 : lcLoopO t (Tf.wipe (slotsT t) env) [(l, .lst rs)] (lcBO (cl := cl) (call := call) cs e) rs h1 with
     | ex c v => rw [e3] at q; exact q.elim
     | no => rw [e3] at q; exact q.elim
     | ok xs h4 =>
      rw [e3] at q
      dsimp only at q
      split at q
      case isFalse => exact q.elim
      rename_i hz
      intro ρ1 H1 a ex hr1 ea D hD
      have n : ¬ Z0 D := fun z => by obtain ⟨o, q⟩ := hr1.zd D z; rw [hD] at q; cases q
      exact lcO_turns ea hr1 (er.ex ex) hD k1 k2 e3 hz fun ρ' H' acc ex2 hr2 hD2 rv =>
       q (ρ' ++ [D]) H' _ ((ex.trans ex2).adopt hr2 (ex.back hr1 D hD)) (hr2.adopt n ⟨acc, hD2, rv⟩ (RRs.app hr2.len)) ⟨D, by rw [<- hr2.len]; simp, rfl⟩
    | _ => exact q.elim
end
section
variable {X : Cx} {N : Nm} {cl : Tf.Cls} {call : Call} {fuel : Nat} {t : T} {cs : List E} {ii ie : E} {tg iter elt : Expr} {ifs : List Expr} {scope : Scope} {pos spos : Pos}
theorem P.asgLcR {i : Nat} {y : Str} {py : Pos} (own : List (Str × Nat)) (hN : X.N.Nodup) (hi : PE X iter (tEv (ct N X) (ev cl call ii)))
  (hg : Blk X scope fun Y => PG Y tg (gT (ct N X) t)) (ht : Blk X scope fun Y => PTs Y ifs (tTs (ct N X) (tests cl call cs))) (he : Blk X scope fun Y => PE Y elt (tEv (ct N X) (ev cl call ie)))
  (hy : X.N[i]? = some y := by rfl) (hyl : X.env.scope.names.lookup y = some .local := by rfl) (hsw : swapsWith (.ListComp elt [⟨tg, iter, ifs, 0⟩] scope pos) (some (.Name y py)) spos.line X.env = pure true := by rfl)
  (ok : blkC X.N X.env.scope scope own = true := by kernel_rfl) (k1 : ∀ i ∈ own.map (·.2), i ∈ slotsT t := by decide) (k2 : ∀ i ∈ slotsT t, i ∈ own.map (·.2) := by decide) (hc : X.calm = true := by rfl) (hs : ∀ x, foldedSetIterable iter X.env x = pure x := by intro _; rfl) :
  PS X (.Assign [.Name y py] (.ListComp elt [⟨tg, iter, ifs, 0⟩] scope pos) spos) (tEx (ct N X) (exec cl call fuel (.asg (.n i) (.lcO t ii cs ie)))) :=
 ⟨fun pins s σ H D I q => (ps_setLc hc hN hy hyl hsw (si_ob hi) (blkOk_by ok) hg ht he hs).run pins s σ H D I (by
  have hl : i < σ.length := by rw [I.len]; exact (List.getElem?_eq_some_iff.mp hy).1
  obtain ⟨Z0, ρ, h, env, hr, er, q2⟩ := asg_core (te := tEv (ct N X) (ev cl call (.lcO t ii cs ie))) (fun _ z => z) q
  exact lcO_of k1 k2 ⟨Z0, ρ, h, env, hr, er, EQ.imp (fun v H' z => gName_of hl z) q2⟩)⟩
end
end Tf
namespace Tf
open PySem L2 PyProof.Rows
def Itz3 (K : PySem.W.Frag) (a b c : Addr) : It :=
 ⟨fun i H => ∃ (xs ys zs : List V) (x y z : V), SqT K H a xs ∧ SqT K H b ys ∧ SqT K H c zs ∧ xs[i]? = some x ∧ ys[i]? = some y ∧ zs[i]? = some z,
  fun i H v H' => ∃ T x y z, v = .ref T ∧ H T = none ∧ H' = upd H T (.tup [x, y, z]) ∧ (∀ xs, SqT K H a xs -> xs[i]? = some x) ∧ (∀ ys, SqT K H b ys -> ys[i]? = some y) ∧ ∀ zs, SqT K H c zs -> zs[i]? = some z,
  fun i H => ∃ xs ys zs : List V, SqT K H a xs ∧ SqT K H b ys ∧ SqT K H c zs ∧ i <= xs.length ∧ i <= ys.length ∧ i <= zs.length ∧ (i = xs.length ∨ i = ys.length ∨ i = zs.length)⟩
theorem trip_get {us vs ws : List W} {i : Nat} {w : W} (h : (tripW us vs ws)[i]? = some w) : ∃ u v x, us[i]? = some u ∧ vs[i]? = some v ∧ ws[i]? = some x ∧ w = .tup [u, v, x] := by
 unfold tripW at h
 cases e : (us.zip (vs.zip ws))[i]? with
 | none => simp_all
 | some p =>
  obtain ⟨h1, h2⟩ := List.getElem?_zip_eq_some.mp e
  obtain ⟨h3, h4⟩ := List.getElem?_zip_eq_some.mp h2
  simp_all
theorem trip_len {us vs ws : List W} : (tripW us vs ws).length = min us.length (min vs.length ws.length) := by
 unfold tripW
 simp_all
section
variable {C : Ct} {H H' : Hp} {Z Z' Z0 Z1 : Addr -> Prop} {ρ ρ' : List Addr} {h h' : Hh}
theorem trip_rt {ts : List T} {u v u3 : W} {x y z : V} {p : Addr} (hr : HR C Z1 ρ' h' H') (hp : H' p = none) (r1 : VR C H' (Av ρ' h' Z1) u x) (r2 : VR C H' (Av ρ' h' Z1) v y) (r3 : VR C H' (Av ρ' h' Z1) u3 z) :
  RT C (upd H' p (.tup [x, y, z])) (Av ρ' h' Z1) ρ' (.t ts) (.w (.tup [u, v, u3])) (.ref p) :=
 .inr ⟨ts, [u, v, u3], p, [x, y, z], rfl, rfl, rfl, .inl (.inl upd_same), VRs.ex (Ex.fresh hr hp) (by unfold VRs; exact ⟨x, [y, z], rfl, r1, by unfold VRs; exact ⟨y, [z], rfl, r2, by unfold VRs; exact ⟨z, [], rfl, r3, by unfold VRs; rfl⟩⟩⟩)⟩
theorem Src.zip3 {ts : List T} {a b c : Addr} {xs ys zs : List V} {us vs ws : List W} (ea : SqN H a xs) (ra : VRs C H (Av ρ h Z0) us xs) (eb : SqN H b ys) (rb : VRs C H (Av ρ h Z0) vs ys) (ec : SqN H c zs) (rc : VRs C H (Av ρ h Z0) ws zs) :
  Src C (.t ts) (Itz3 C.K a b c) (tripW us vs ws) [] Z0 ρ h H where
 go := fun Z1 ρ' h' H' x hr _ i w hw => by
  have e1 : SqT C.K H' a xs := (x.sqT ea).t
  have e2 : SqT C.K H' b ys := (x.sqT eb).t
  have e3 : SqT C.K H' c zs := (x.sqT ec).t
  obtain ⟨u, v, u3, hu, hv, hw3, rfl⟩ := trip_get hw
  obtain ⟨p, hp, rp⟩ := vrs_get (x.vrs ra) hu
  obtain ⟨q, hq, rq⟩ := vrs_get (x.vrs rb) hv
  obtain ⟨r, hr3, rr⟩ := vrs_get (x.vrs rc) hw3
  refine ⟨⟨xs, ys, zs, p, q, r, e1, e2, e3, hp, hq, hr3⟩, fun y H'' z => ?_⟩
  obtain ⟨T, p', q', r', rfl, hT, rfl, f1, f2, f3⟩ := z
  have z1 := f1 xs e1
  rw [hp] at z1
  cases z1
  have z2 := f2 ys e2
  rw [hq] at z2
  cases z2
  have z3 := f3 zs e3
  rw [hr3] at z3
  cases z3
  exact ⟨.inr ⟨T, _, hT, rfl⟩, trip_rt hr hT rp rq rr⟩
 stop := fun Z1 ρ' h' H' x hr _ => by
  have l1 := vrs_len ra
  have l2 := vrs_len rb
  have l3 := vrs_len rc
  have l4 := trip_len (us := us) (vs := vs) (ws := ws)
  exact ⟨xs, ys, zs, (x.sqT ea).t, (x.sqT eb).t, (x.sqT ec).t, by omega, by omega, by omega, by omega⟩
end
section
variable {X : Cx} {N : Nm} {cl : Cls} {call : Call} {e e2 e3 : Expr} {ie ie2 ie3 : E} {ts : List T} {t : T} {p pos apos tpos : Pos} {elts : List Expr} {kk : Nat} {tg : Expr}
end
section
variable {X : Cx} {N : Nm} {cl : Cls} {call : Call} {a b : Expr} {ia ib : E} {t : T} {p pos : Pos} {tg : Expr}
end
section
variable {X : Cx} {N : Nm} {cl : Cls} {call : Call} {a b c e lo hi : Expr} {ia ib ic ie il ih : E} {p p2 apos cpos pos : Pos}
theorem P.pick2 (p1 : PE X a (tEv (ct N X) (ev cl call ia))) (p2 : PE X b (tEv (ct N X) (ev cl call ib))) (p3 : PE X c (tEv (ct N X) (ev cl call ic))) (hs : PlainIx c := by intro _ _; rfl)
  (hs1 : starEach (a :: [b]) X.env = (false, eval a X.env) :: starEach [b] X.env := by rfl) (hs2 : starEach (b :: []) X.env = (false, eval b X.env) :: starEach [] X.env := by rfl) : PE X (.Subscript (.List [a, b] p) c pos) (tEv (ct N X) (ev cl call (.op .pick2 [ia, ib, ic]))) :=
 PE.imp (pe_ix ix_list (pe_lst (P.acons p1 (P.acons p2 P.anil hs2) hs1)) p3 hs) fun σ H Q t => by
  obtain ⟨Z0, ρ, h, env, hr, er, q⟩ := t
  have sh : ∃ ra rb h1 rc h2, evs cl call [ia, ib] env h = .ok [ra, rb] h1 ∧ ev cl call ic env h1 = .ok rc h2 ∧ EQ (ct N X) Z0 ρ h H Q (opR .pick2 [ra, rb, rc] h2) := by
   unfold ev at q
   unfold evs at q
   cases e1 : ev cl call ia env h with
   | ex c v => rw [e1] at q; exact q.elim
   | no => rw [e1] at q; exact q.elim
   | ok ra h0 =>
    rw [e1] at q
    simp only [evs] at q
    cases e2 : ev cl call ib env h0 with
    | ex c v => rw [e2] at q; exact q.elim
    | no => rw [e2] at q; exact q.elim
    | ok rb h1 =>
     rw [e2] at q
     dsimp only at q
     cases e3 : ev cl call ic env h1 with
     | ex c v => rw [e3] at q; exact q.elim
     | no => rw [e3] at q; exact q.elim
     | ok rc h2 =>
      rw [e3] at q
      refine ⟨ra, rb, h1, rc, h2, ?_, e3, q⟩
      simp only [evs, e1, e2]
  obtain ⟨ra, rb, h1, rc, h2, e1, e2, q⟩ := sh
  refine evsA hr er e1 fun H1 ρ1 vs n1 rr => ?_
  obtain ⟨x, y, rfl, rx, ry⟩ := rrs2 rr
  refine ⟨by show 2 <= sizeLine; decide, fun pp hp => ?_⟩
  have ex2 : Ex ρ1 h1 H1 ρ1 h1 (L2.upd H1 pp (.lst [x, y])) := Ex.fresh n1.hr hp
  have hr2 := n1.hr.fresh (o := .lst [x, y]) hp
  have er2 : ER (ct N X) (L2.upd H1 pp (.lst [x, y])) (Av ρ1 h1 Z0) ρ1 env σ := ER.ex ex2 n1.er
  refine tEv.bind hr2 er2 e2 fun H2 ρ2 v n2 rv => ?_
  have k1 := (n2.ex.fr pp (.lst [x, y]) L2.upd_same fun z => n1.hr.new hp (.inl z)).1
  have fin : ∀ {r : R} {z : V}, RR (ct N X) H1 (Av ρ1 h1 Z0) ρ1 r z -> EQ (ct N X) Z0 ρ h H Q (.ok r h2) -> Q z H2 := fun r1 q1 =>
   q1 ρ2 H2 _ ((n1.ex.trans ex2).trans n2.ex) n2.hr (RR.ex n2.ex (RR.ex ex2 r1))
  unfold opR at q
  split at q
  ·exact q.elim
  ·have e3 : opH .pick2 [ra, rb, rc] h2 = oh_pick2 [ra, rb, rc] h2 := rfl
   rw [e3] at q
   unfold oh_pick2 at q
   cases rc with
   | loc l => exact q.elim
   | w w =>
    cases w with
    | int i =>
     dsimp only at q
     have hv := rr_int rv
     by_cases h0 : i = 0
     ·subst h0
      exact ⟨pp, [x, y], 0, x, rfl, hv, .of k1, rfl, fin rx q⟩
     ·by_cases h1' : i = 1
      ·subst h1'
       exact ⟨pp, [x, y], 1, y, rfl, hv, .of k1, rfl, fin ry q⟩
      ·rw [if_neg h0, if_neg h1'] at q
       exact q.elim
    | _ => exact q.elim
end
end Tf
namespace PySem.W
open PySem PySem.Calls PyProof.Rows
section
variable {prog : Program} {w : World} {A : Around} {E : Value -> Shared -> Prop} {s : Shared} {K : Frag} {x C L f : Addr} {h₀ : Heap} {m : Str -> Option Value} {ox : Obj} {od : Option Obj} {b tb : Value}
end
end PySem.W
namespace Tf
open PySem L2 PyProof.Rows
structure EqC (K : PySem.W.Frag) (C f : Addr) : Prop where
 at_ : PySem.W.findIn K (.ref C) "__eq__" = some (some (.ref f))
 fn : PySem.W.isFn K (.ref f) = true
 ne : PySem.W.findIn K (.ref C) "__ne__" = some (some (.builtin "object.__ne__"))
 mr : PySem.W.mroIn K C (.type "object") = some true
section
variable {X : Cx} {N : Nm} {cl : Tf.Cls} {call : Call} {fuel k : Nat}
end
end Tf
namespace Tf.P
open PySem L2 PyProof.Rows
section
variable {X : Cx} {N : Nm} {cl : Tf.Cls} {call : Call} {fuel k : Nat} {a b : Expr} {ia ib : E} {pos : Pos}
end
end Tf.P
namespace Tf
open PySem L2 PyProof.Rows
section
variable {X : Cx} {N : Nm} {cl : Cls} {call : Call}
end
end Tf
namespace Tf
namespace P
open PySem L2 PyProof.Rows
section
variable {X : Cx} {N : Nm} {cl : Tf.Cls} {call : Call} {kk : Nat} {o e : Expr} {es : List Expr} {io : E} {ies : List E} {apos cpos : Pos}
variable (hr : RoomG kk X.A) (ho : PE X o (tEv (ct N X) (ev cl call io))) (ha : PA X (e :: es) (tEvs (ct N X) (evs cl call ies)))
include hr ho ha
end
end P
end Tf
namespace Tf
open PySem L2 PyProof.Rows
section
variable {X : Cx} {N : Nm} {cl : Cls} {call : Call}
end
end Tf
namespace Tf
open PySem L2 PyProof.Rows
section
variable {X : Cx} {N : Nm} {cl : Tf.Cls} {call : Call} {fuel : Nat}
theorem se_lstO {es : List Expr} {ies : List E} {pos} (pa : PA X es (tEvs (ct N X) (evs cl call ies))) : PE X (.List es pos) (tEv (ct N X) (ev cl call (.lstO ies))) :=
 PE.imp (pe_lst pa) fun σ H Q ⟨Z0, ρ, h, env, hr, er, q⟩ => by
  unfold ev at q
  cases e1 : evs cl call ies env h with
  | ex c v => rw [e1] at q; exact q.elim
  | no => rw [e1] at q; exact q.elim
  | ok rs h1 =>
   rw [e1] at q
   dsimp only at q
   refine tEvs.bind hr er e1 fun H1 ρ1 v n1 rr => ?_
   split at q
   case isFalse => exact q.elim
   rename_i hz
   refine ⟨by rw [rrs_len rr]; exact sz_line hz, fun p np => ?_⟩
   have ex : Ex ρ1 h1 H1 (ρ1 ++ [p]) (h1 ++ [.lst rs]) (upd H1 p (.lst v)) := Ex.alloc n1.hr np
   refine q (ρ1 ++ [p]) _ _ (n1.ex.trans ex) (HR.alloc n1.hr np ⟨v, upd_same, RRs.ex ex rr⟩) ⟨p, by rw [<- n1.hr.len]; simp, rfl⟩
end
end Tf
namespace Tf
open PySem L2 PyProof.Rows
section
variable {X : Cx} {N : Nm} {cl : Tf.Cls} {call : Call} {fuel : Nat}
end
end Tf
namespace Tf
open PySem L2 PyProof.Rows
theorem shOs_get {n m : Nat} : ∀ {os os' : Hh}, shOs n m os = some os' -> os'.length = os.length ∧ ∀ (j : Nat) (o : O), os[j]? = some o -> ∃ o', os'[j]? = some o' ∧ shO n m o = some o'
 | [], os', e => by cases e; exact ⟨rfl, fun j o z => by simp at z⟩
 | o :: os, os', e => by
  unfold shOs at e
  cases e1 : shO n m o with
  | none => simp_all
  | some o1 =>
   cases e2 : shOs n m os with
   | none => rw [e1, e2] at e; cases e
   | some os1 =>
    rw [e1, e2] at e
    cases e
    obtain ⟨l, k⟩ := shOs_get e2
    refine ⟨by simp [l], fun j u z => ?_⟩
    cases j with
    | zero => simp_all
    | succ j => exact k j u z
theorem sh_alive {n m : Nat} {o o' : O} (e : shO n m o = some o') : o ≠ .dead := fun z => by subst z; cases e
section
variable {C : Ct} {H : Hp} {Z Z' : Addr -> Prop} {ρ ρ' : List Addr} {n m : Nat}
theorem rrs_sh (av : ∀ a, Z' a -> Z a) (pl : ∀ (k : Nat) (a : Addr), n <= k -> ρ[k]? = some a -> ρ'[k - n + m]? = some a) : ∀ {rs rs' : List R} {vs : List V}, RRs C H Z ρ rs vs -> shRs n m rs = some rs' -> RRs C H Z' ρ' rs' vs
 | [], rs', vs, r, e => by cases e; exact r
 | r :: rs, rs', vs, ⟨v, t, e0, r1, r2⟩, e => by
  unfold shRs at e
  cases e1 : shR n m r with
  | none => simp_all
  | some r' =>
   cases e2 : shRs n m rs with
   | none => simp_all
   | some rs1 =>
    rw [e1, e2] at e
    cases e
    refine ⟨v, t, e0, ?_, rrs_sh av pl r2 e2⟩
    cases r with
    | w w => cases e1; exact VR.mono av r1
    | loc k =>
     unfold shR at e1
     dsimp only at e1
     by_cases hk : n <= k
     ·rw [if_pos hk] at e1
      cases e1
      obtain ⟨a, ea, ev⟩ := r1
      exact ⟨a, pl k a hk ea, ev⟩
     ·rw [if_neg hk] at e1; cases e1
theorem or_sh (av : ∀ a, Z' a -> Z a) (pl : ∀ (k : Nat) (a : Addr), n <= k -> ρ[k]? = some a -> ρ'[k - n + m]? = some a) {o o' : O} {a : Addr} (r : OR C H Z ρ a o) (e : shO n m o = some o') : OR C H Z' ρ' a o' := by
 have mp : ∀ {rs : List R} {f : List R -> O}, (shRs n m rs).map f = some o' -> ∃ rs', shRs n m rs = some rs' ∧ o' = f rs' := fun {rs f} z => by
  cases q : shRs n m rs <;> simp_all
 cases o with
 | dead => cases e
 | exc c r0 =>
  obtain ⟨y, e2, r2⟩ := r
  unfold shO at e
  cases e3 : shR n m r0 with
  | none => simp [e3] at e
  | some r1 =>
   have eo : o' = .exc c r1 := by simpa [e3] using e.symm
   subst eo
   obtain ⟨v, t, q1, q2, _⟩ := rrs_sh (rs := [r0]) (rs' := [r1]) (vs := [y]) av pl ⟨y, [], rfl, r2, rfl⟩ (by unfold shRs shRs; rw [e3])
   cases q1
   exact ⟨y, e2, q2⟩
 | lst rs =>
  obtain ⟨rs', e1, rfl⟩ := mp e
  obtain ⟨vs, e2, r2⟩ := r
  exact ⟨vs, e2, rrs_sh av pl r2 e1⟩
 | dct ks us =>
  obtain ⟨rs', e1, rfl⟩ := mp e
  obtain ⟨kv, vv, e2, r1, r2⟩ := r
  exact ⟨kv, vv, e2, VRs.mono av r1, rrs_sh av pl r2 e1⟩
 | ins c ns us =>
  obtain ⟨rs', e1, rfl⟩ := mp e
  obtain ⟨dx, fs, e2, e3, r2⟩ := r
  exact ⟨dx, fs, e2, e3, rrs_sh av pl r2 e1⟩
 | tup rs =>
  obtain ⟨rs', e1, rfl⟩ := mp e
  obtain ⟨vs, e2, r2⟩ := r
  exact ⟨vs, e2, rrs_sh av pl r2 e1⟩
end
section
variable {C : Ct} {cl : Cls} {call : Call} {fuel : Nat} {fd : Fd} {Z0 : Addr -> Prop} {ρ : List Addr} {h : Hh} {H : Hp} {rs : List R} {vs : List V} {Q : VK} {E : XK}
theorem kd_core (hr : HR C Z0 ρ h H) (rr : RRs C H (Av ρ h Z0) ρ rs vs) (q : EQ C Z0 ρ h H Q (runBy cl fuel fd call .kd rs h)) : spR C cl call fuel fd vs H Q E := by
 unfold runBy at q
 cases e : hand rs h 0 with
 | none => rw [e] at q; exact q.elim
 | some x =>
  obtain ⟨ls, as, os⟩ := x
  rw [e] at q
  dsimp only at q
  have hd := hand_ok e
  by_cases isw : ∃ w g, runFd cl call fuel fd as os = .ok (.w w) g
  ·obtain ⟨w, g, ew⟩ := isw
   refine pu_core hr rr ?_
   unfold runBy
   dsimp only
   rw [e]
   dsimp only
   rw [ew] at q ⊢
   unfold afterD at q
   unfold after
   dsimp only at q ⊢
   split at q
   ·rename_i hc
    rw [if_pos hc, show fz g ls.length 20 (.w w) = some w from by unfold fz; rfl]
    exact q
   ·exact q.elim
  refine ⟨Zc ρ h Z0 ls, ls.map (adr ρ), os, as, hd.start hr, ?_, ?_⟩
  ·have := hand_args (pre := []) (Z' := Av (ls.map (adr ρ)) os (Zc ρ h Z0 ls)) hr.len (fun a z => z.elim (fun z => .inl (hd.live hr z)) fun z => z.1) e rfl rr
   exact this
  ·cases er : runFd cl call fuel fd as os with
   | ex c v => rw [er] at q; exact q.elim
   | no => rw [er] at q; exact q.elim
   | ok r h' =>
    rw [er] at q
    intro ρ' H' v ex hr' rr'
    unfold afterD at q
    cases r with
    | w w => simp_all
    | loc l =>
     dsimp only at q
     split at q
     ·rename_i hc
      obtain ⟨fl, hl⟩ := and2 hc
      have hl := Nat.le_of_ble_eq_true hl
      cases eo : shOs ls.length h.length (h'.drop ls.length) with
      | none => rw [eo] at q; exact q.elim
      | some os2 =>
       rw [eo] at q
       dsimp only at q
       obtain ⟨l2, sg⟩ := shOs_get eo
       obtain ⟨p, ep, rfl⟩ := rr'
       have lr' : ρ'.length = h'.length := hr'.len
       have own : ∀ i a, ls.length <= i -> ρ'[i]? = some a -> ∃ o o2, h'[i]? = some o ∧ os2[i - ls.length]? = some o2 ∧ shO ls.length h.length o = some o2 ∧ Live ρ' h' a := fun i a hi ea => by
        have hlt : i < h'.length := by rw [<- lr']; exact (List.getElem?_eq_some_iff.mp ea).1
        have e1 : (h'.drop ls.length)[i - ls.length]? = some (h'[i]'hlt) := by
         simp_all
        obtain ⟨o2, e2, e3⟩ := sg _ _ e1
        exact ⟨_, o2, List.getElem?_eq_getElem hlt, e2, e3, i, _, ea, List.getElem?_eq_getElem hlt, sh_alive e3⟩
       let N : Addr -> Prop := fun a => ∃ i, ls.length <= i ∧ ρ'[i]? = some a
       have B := hd.back (Zx := fun a => Z0 a ∨ N a) hr ex hr' fl fun a z => z.imp id fun ⟨i, hi, ea⟩ => by
        obtain ⟨_, _, _, _, _, lv⟩ := own i a hi ea
        exact ⟨lv, i, hi, ea⟩
       have np : ∀ a, N a -> H a = none := fun a ⟨i, hi, ea⟩ => by
        obtain ⟨_, _, _, _, _, lv⟩ := own i a hi ea
        cases q : H a with
        | none => rfl
        | some u =>
         by_cases z : Live (ls.map (adr ρ)) os a
         ·obtain ⟨j, x, e1, _, _⟩ := z
          have := nodup_get hr'.nd ea (ex.get e1)
          have h1 := (List.getElem?_eq_some_iff.mp e1).1
          simp at h1
          omega
         ·exact absurd lv (ex.fr a u q z).2
       have nz : ∀ a, N a -> ¬ Z0 a := fun a n z => by obtain ⟨u, q⟩ := hr.zd a z; rw [np a n] at q; cases q
       obtain ⟨Bex, Bhr, Bav⟩ := B
       generalize hp : putBack ls (h'.take ls.length) h = h1 at Bex Bhr Bav q
       have lh1 : h1.length = h.length := by rw [<- hp]; exact putBack_len
       have lρ : ρ.length = h1.length := Bhr.len
       have dl : (ρ'.drop ls.length).length = os2.length := by rw [List.length_drop, l2, List.length_drop, lr']
       have inN : ∀ a, a ∈ ρ'.drop ls.length -> N a := fun a ha => by
        obtain ⟨j, ej⟩ := List.mem_iff_getElem?.mp ha
        rw [List.getElem?_drop] at ej
        exact ⟨ls.length + j, by omega, ej⟩
       have live2 : ∀ a, Live (ρ ++ ρ'.drop ls.length) (h1 ++ os2) a -> Live ρ h1 a ∨ N a := fun a ⟨i, o, e1, e2, d⟩ => by
        by_cases hi : i < ρ.length
        ·rw [List.getElem?_append_left hi] at e1
         rw [List.getElem?_append_left (by omega)] at e2
         exact .inl ⟨i, o, e1, e2, d⟩
        ·rw [List.getElem?_append_right (by omega)] at e1
         exact .inr (inN a (List.mem_of_getElem? e1))
       have avO : ∀ a, Av (ρ ++ ρ'.drop ls.length) (h1 ++ os2) Z0 a -> Av ρ h1 (fun a => Z0 a ∨ N a) a := fun a z => z.elim (fun z => (live2 a z).imp id .inr) fun z => .inr (.inl z)
       have avN : ∀ a, Av (ρ ++ ρ'.drop ls.length) (h1 ++ os2) Z0 a -> Av ρ' h' (Zc ρ h Z0 ls) a := fun a z => by
        have bv : ∀ a, Av ρ h1 Z0 a -> Av ρ' h' (Zc ρ h Z0 ls) a := fun a z => by
         have := Bav a z
         exact this.elim (fun ⟨_, _, _, q⟩ => .inl q) .inr
        rcases z with z | z
        ·rcases live2 a z with z | ⟨i, hi, ea⟩
         ·exact bv a (.inl z)
         ·obtain ⟨_, _, _, _, _, lv⟩ := own i a hi ea
          exact .inl lv
        ·exact bv a (.inr z)
       have pl : ∀ (k : Nat) (a : Addr), ls.length <= k -> ρ'[k]? = some a -> (ρ ++ ρ'.drop ls.length)[k - ls.length + h.length]? = some a := fun k a hk ea => by
        rw [List.getElem?_append_right (by omega), List.getElem?_drop]
        rw [show ls.length + (k - ls.length + h.length - ρ.length) = k by omega]
        exact ea
       have rrO : ∀ {rs : List R} {vs : List V}, RRs C H' (Av ρ h1 fun a => Z0 a ∨ N a) ρ rs vs -> RRs C H' (Av (ρ ++ ρ'.drop ls.length) (h1 ++ os2) Z0) (ρ ++ ρ'.drop ls.length) rs vs := by
        intro rs
        induction rs with
        | nil => intro vs r; exact r
        | cons r rs ih =>
         rintro vs ⟨v, t, e0, r1, r2⟩
         refine ⟨v, t, e0, ?_, ih r2⟩
         cases r with
         | w w => exact VR.mono avO r1
         | loc k =>
          obtain ⟨a, ea, ev⟩ := r1
          exact ⟨a, by rw [List.getElem?_append_left (List.getElem?_eq_some_iff.mp ea).1]; exact ea, ev⟩
       have hr2 : HR C Z0 (ρ ++ ρ'.drop ls.length) (h1 ++ os2) H' := by
        refine ⟨by rw [List.length_append, List.length_append, dl, lρ], ?_, fun i o a e1 e2 d => ?_, fun a z => Bhr.zd a (.inl z), fun a z => ?_, fun a z z0 => ?_⟩
        ·rw [List.nodup_append]
         refine ⟨Bhr.nd, hr'.nd.sublist (List.drop_sublist _ _), fun a ha b hb => ?_⟩
         rintro rfl
         exact Bhr.dj a ha (.inr (inN a hb))
        ·by_cases hi : i < ρ.length
         ·rw [List.getElem?_append_left hi] at e2
          rw [List.getElem?_append_left (by omega)] at e1
          have r := Bhr.ob i o a e1 e2 d
          cases o with
          | lst rs => obtain ⟨vs, e, r⟩ := r; exact ⟨vs, e, rrO r⟩
          | dct ks us => obtain ⟨kv, vv, e, r1, r2⟩ := r; exact ⟨kv, vv, e, VRs.mono avO r1, rrO r2⟩
          | ins c ns us => obtain ⟨dx, fs, e, e2, r⟩ := r; exact ⟨dx, fs, e, e2, rrO r⟩
          | tup rs => obtain ⟨vs, e, r⟩ := r; exact ⟨vs, e, rrO r⟩
          | exc c r0 =>
           obtain ⟨y, e, r⟩ := r
           obtain ⟨v, t, e5, r5, _⟩ := rrO (rs := [r0]) (vs := [y]) ⟨y, [], rfl, r, rfl⟩
           cases e5
           exact ⟨y, e, r5⟩
          | dead => trivial
         ·rw [List.getElem?_append_right (by omega), List.getElem?_drop] at e2
          rw [List.getElem?_append_right (by omega)] at e1
          obtain ⟨u, u2, x1, x2, x3, _⟩ := own _ a (by omega) e2
          rw [show ls.length + (i - ρ.length) - ls.length = i - h1.length by omega] at x2
          rw [x2] at e1
          cases e1
          exact or_sh avN pl (hr'.ob _ _ _ x1 e2 (sh_alive x3)) x3
        ·rcases List.mem_append.mp z with z | z
         ·exact Bhr.tr a z
         ·exact Bhr.zd a (.inr (inN a z))
        ·rcases List.mem_append.mp z with z | z
         ·exact Bhr.dj a z (.inl z0)
         ·exact nz a (inN a z) z0
       have ex2 : Ex ρ h H (ρ ++ ρ'.drop ls.length) (h1 ++ os2) H' := by
        refine ⟨⟨_, rfl⟩, fun a u e n => ?_, Bex.tp, Bex.xp⟩
        obtain ⟨e1, n1⟩ := Bex.fr a u e n
        refine ⟨e1, fun z => ?_⟩
        rcases live2 a z with z | z
        ·exact n1 z
        ·rw [np a z] at e; cases e
       exact q _ H' (.ref p) ex2 hr2 ⟨p, pl l p hl ep, rfl⟩
     ·exact q.elim
end
end Tf
namespace Tf
open PySem L2 PyProof.Rows
section
variable {X : Cx} {N : Nm} {cl : Tf.Cls} {call : Call} {fuel : Nat}
theorem lcN_turns {C : Ct} {J : It} {ws : List W} {xs : List R} {st : List (Nat × O)} {Z0 : Addr -> Prop} {ρ1 : List Addr} {h1 h4 : Hh} {H1 : Hp} {t : T} {cs : List E} {e : E} {σ : Sg} {env : Env} {vs : List Nat} {D : Addr} {Qd : Hp -> Prop} (S : Src C t J ws st Z0 ρ1 h1 H1) (hr : HR C Z0 ρ1 h1 H1) (er : ER C H1 (Av ρ1 h1 Z0) ρ1 env σ)
  (hd : H1 D = none) (k1 : ∀ i ∈ vs, i ∈ slotsT t) (k2 : ∀ i ∈ slotsT t, i ∈ vs) (hl : lcLoopO t (Tf.wipe (slotsT t) env) st (lcBO (cl := cl) (call := call) cs e) (ws.map R.w) h1 = .ok xs h4) (hz : xs.length <= sizeMax)
  (q : ∀ ρ' H' acc, Ex ρ1 h1 H1 ρ' h4 H' -> HR C (Zp Z0 D) ρ' h4 H' -> H' D = some (.lst acc) -> RRs C H' (Av ρ' h4 (Zp Z0 D)) ρ' xs acc -> Qd H') :
  ∃ W : Nat -> Nat -> Hp -> Prop, (∃ m, W 0 m (upd H1 D (.lst []))) ∧ ∀ i m H, W i m H ->
   (J.stop i H ∧ Qd H) ∨ (J.go i H ∧ ∃ Nn : Hp -> Prop, (∀ H', Nn H' -> ∃ m', m' < m ∧ W (i + 1) m' H') ∧ ∀ x H', J.yld i H x H' -> gT C t x (L2.wipe σ vs) H' fun σ2 H2 => L2.wipe σ2 vs = L2.wipe σ vs ∧ tTs C (tests cl call cs) σ2 H2 fun b H3 =>
    if b = true then tEv C (ev cl call e) σ2 H3 fun y H4 => ∃ acc, H4 D = some (.lst acc) ∧ acc.length < sizeLine ∧ Nn (upd H4 D (.lst (acc ++ [y]))) else Nn H3) := by
 have kz : ∀ b, Zp Z0 D b -> Z0 b ∨ H1 b = none := by grind
 let P : Nat -> Hp -> Prop := fun i H => ∃ ρ' h' acc done ys, Ex ρ1 h1 H1 ρ' h' H ∧ HR C (Zp Z0 D) ρ' h' H ∧ H D = some (.lst acc) ∧ RRs C H (Av ρ' h' (Zp Z0 D)) ρ' done acc ∧ lcLoopO t (Tf.wipe (slotsT t) env) st (lcBO (cl := cl) (call := call) cs e) ((ws.drop i).map R.w) h' = .ok ys h4 ∧ done ++ ys = xs
 refine ⟨fun i m H => m = ws.length - i ∧ i <= ws.length ∧ P i H, ⟨ws.length, by simp, Nat.zero_le _, ρ1, h1, [], [], xs, Ex.fresh hr hd, hr.freshP hd, upd_same, rfl, by simpa using hl, rfl⟩, ?_⟩
 rintro i m H ⟨rfl, hi, ρ', h', acc, done, ys, ex, hr', hD, rv, hl, hx⟩
 by_cases hlt : i < ws.length
 ·have hdr : ws.drop i = ws[i] :: ws.drop (i + 1) := List.drop_eq_getElem_cons hlt
  rw [hdr, List.map_cons] at hl
  unfold lcLoopO at hl
  split at hl
  case isFalse => cases hl
  rename_i hs
  obtain ⟨g1, g2⟩ := S.go (Zp Z0 D) ρ' h' H (ex.z kz) hr' hs i ws[i] (by simp [hlt])
  cases es : setT t (.w ws[i]) (Tf.wipe (slotsT t) env) with
  | none => rw [es] at hl; cases hl
  | some env1 =>
   rw [es] at hl
   dsimp only at hl
   refine .inr ⟨g1, P (i + 1), fun H' p => ⟨ws.length - (i + 1), by omega, rfl, hlt, p⟩, fun x H' y => ?_⟩
   obtain ⟨y1, y2⟩ := g2 x H' y
   obtain ⟨ex2, hr2⟩ := yl_ex hr' y1
   have exA := ex.trans ex2
   have er2 := (ER.exz kz exA er).wipe k1
   refine ⟨_, ρ', _, .w ws[i], env1, er2, y2, es, fun σ2 er3 sm => ⟨?_, ?_⟩⟩
   ·rw [(Sm.sub sm k2).wipe]
    exact Sm.wiped.wipe
   ·have hD2 : H' D = some (.lst acc) := (ex2.fr D _ hD (hr'.notLive (.inr rfl))).1
    have rv2 : RRs C H' (Av ρ' h' (Zp Z0 D)) ρ' done acc := RRs.ex ex2 rv
    refine ⟨_, ρ', h', env1, hr2, er3, ?_⟩
    cases et : tests cl call cs env1 h' with
    | ex c v => simp only [lcBO, et] at hl; cases hl
    | no => simp only [lcBO, et] at hl; cases hl
    | ok b h3 =>
     intro ρ3 H3 ex3 hr3
     have hD3 : H3 D = some (.lst acc) := (ex3.fr D _ hD2 (hr2.notLive (.inr rfl))).1
     have rv3 := RRs.ex ex3 rv2
     cases b with
     | false =>
      rw [if_neg (by decide)]
      simp only [lcBO, et] at hl
      cases el : lcLoopO t (Tf.wipe (slotsT t) env) st (lcBO (cl := cl) (call := call) cs e) ((ws.drop (i + 1)).map R.w) h3 with
      | ex c v => simp_all
      | no => rw [el] at hl; cases hl
      | ok zs h5 =>
       rw [el] at hl
       injection hl with hl1 hl2
       subst hl2
       refine ⟨ρ3, h3, acc, done, zs, exA.trans ex3, hr3, hD3, rv3, el, ?_⟩
       rw [<- hx, <- hl1]; rfl
     | true =>
      rw [if_pos rfl]
      refine ⟨_, ρ3, h3, env1, hr3, er3.ex ex3, ?_⟩
      simp only [lcBO, et] at hl
      cases ee : asR (ev cl call e env1 h3) with
      | ex c v => rw [ee] at hl; cases hl
      | no => rw [ee] at hl; cases hl
      | ok us h5 =>
       obtain ⟨w, ew, rfl⟩ := asR_ok ee
       rw [ee] at hl
       dsimp only at hl
       rw [ew]
       intro ρ4 H4 yv ex4 hr4 ry
       have hD4 : H4 D = some (.lst acc) := (ex4.fr D _ hD3 (hr3.notLive (.inr rfl))).1
       have rv4 := RRs.ex ex4 rv3
       cases el : lcLoopO t (Tf.wipe (slotsT t) env) st (lcBO (cl := cl) (call := call) cs e) ((ws.drop (i + 1)).map R.w) h5 with
       | ex c v => rw [el] at hl; cases hl
       | no => rw [el] at hl; cases hl
       | ok zs h6 =>
        rw [el] at hl
        injection hl with hl1 hl2
        subst hl2
        have hlen := rrs_len rv4
        refine ⟨acc, hD4, ?_, ρ4, h5, acc ++ [yv], done ++ [w], zs, ((exA.trans ex3).trans ex4).updN hd, hr4.updZ (.inr rfl) hD4 noT_lst, upd_same, ?_, el, ?_⟩
        ·have h5 : xs.length = done.length + ys.length := by rw [<- hx, List.length_append]
         have h6 : ys.length = 1 + zs.length := by rw [<- hl1, List.length_append]; rfl
         have := sz_line hz
         omega
        ·exact RRs.upd hD4 noT_lst (.inr (.inr rfl)) (rrs_app rv4 ⟨yv, [], rfl, ry, rfl⟩)
        ·rw [<- hx, <- hl1, List.append_assoc]
 ·have ei : i = ws.length := by omega
  subst ei
  rw [List.drop_eq_nil_of_le (Nat.le_refl _), List.map_nil] at hl
  unfold lcLoopO at hl
  split at hl
  case isFalse => cases hl
  rename_i hs
  injection hl with hl1 hl2
  subst hl1 hl2
  rw [List.append_nil] at hx
  subst hx
  exact .inl ⟨S.stop (Zp Z0 D) ρ' h' H (ex.z kz) hr' hs, q ρ' H acc ex hr' hD rv⟩
theorem lcN_of {t : T} {k : IK} {its cs : List E} {e : E} {vs : List Nat} {C : Ct} (k1 : ∀ i ∈ vs, i ∈ slotsT t) (k2 : ∀ i ∈ slotsT t, i ∈ vs) {σ : Sg} {H : Hp} {Q : VK} (q : tEv C (ev cl call (.lcN t k its cs e)) σ H Q) :
  tLc (iSr C t k (evs cl call its)) (gT C t) (tTs C (tests cl call cs)) (tEv C (ev cl call e)) vs σ H Q := by
 obtain ⟨Z0, ρ, h, env, hr, er, q⟩ := q
 refine ⟨Z0, ρ, h, env, hr, er, ?_⟩
 unfold ev at q
 cases e1 : evs cl call its env h with
 | ex c v => rw [e1] at q; exact q.elim
 | no => rw [e1] at q; exact q.elim
 | ok rs h1 =>
  rw [e1] at q
  dsimp only at q ⊢
  cases e2 : walk k rs h1 with
  | none => rw [e2] at q; exact q.elim
  | some ww =>
   obtain ⟨ws, st⟩ := ww
   rw [e2] at q
   have q : EQ C Z0 ρ h H Q (match lcLoopO t (Tf.wipe (slotsT t) env) st (lcBO (cl := cl) (call := call) cs e) (ws.map R.w) h1 with
    | .ok xs h4 => if xs.length <= sizeMax then .ok (.loc h4.length) (h4 ++ [.lst xs]) else .no
    | _ => .no) := q
   cases e3 : lcLoopO t (Tf.wipe (slotsT t) env) st (lcBO (cl := cl) (call := call) cs e) (ws.map R.w) h1 with
   | ex c v => rw [e3] at q; exact q.elim
   | no => rw [e3] at q; exact q.elim
   | ok xs h4 =>
    rw [e3] at q
    dsimp only at q
    split at q
    case isFalse => exact q.elim
    rename_i hz
    intro ρ1 H1 J ex hr1 S D hD
    have n : ¬ Z0 D := fun z => by obtain ⟨o, q⟩ := hr1.zd D z; rw [hD] at q; cases q
    exact lcN_turns S hr1 (er.ex ex) hD k1 k2 e3 hz fun ρ' H' acc ex2 hr2 hD2 rv =>
     q (ρ' ++ [D]) H' _ ((ex.trans ex2).adopt hr2 (ex.back hr1 D hD)) (hr2.adopt n ⟨acc, hD2, rv⟩ (RRs.app hr2.len)) ⟨D, by rw [<- hr2.len]; simp, rfl⟩
variable {elt tg iter : Expr} {ifs : List Expr} {scope : Scope} {own : List (Str × Nat)} {pos : Pos} {t : T} {k : IK} {its cs : List E} {e : E}
theorem se_lcN (hc : X.calm = true) (hN : X.N.Nodup) (hi : PI X tg iter (iSr (ct N X) t k (evs cl call its))) (ok : BlkOk X.N X.env.scope scope own) (k1 : ∀ i ∈ own.map (·.2), i ∈ slotsT t) (k2 : ∀ i ∈ slotsT t, i ∈ own.map (·.2))
  (hg : ∀ (s : Shared) (H : Hp) (C : Addr) (cl : List (Str × Addr)) (fp : List Addr), PG (X.blk s H scope (compEnvC scope cl C X.env) fp) tg (gT (ct N X) t))
  (ht : ∀ (s : Shared) (H : Hp) (C : Addr) (cl' : List (Str × Addr)) (fp : List Addr), PTs (X.blk s H scope (compEnvC scope cl' C X.env) fp) ifs (tTs (ct N X) (tests cl call cs)))
  (he : ∀ (s : Shared) (H : Hp) (C : Addr) (cl' : List (Str × Addr)) (fp : List Addr), PE (X.blk s H scope (compEnvC scope cl' C X.env) fp) elt (tEv (ct N X) (ev cl call e))) (hs : ∀ x, foldedSetIterable iter X.env x = pure x) :
  PE X (.ListComp elt [⟨tg, iter, ifs, 0⟩] scope pos) (tEv (ct N X) (ev cl call (.lcN t k its cs e))) :=
 PE.imp (pe_lc hc hN hi ok hg ht he hs) fun σ H Q q => lcN_of k1 k2 q
end
end Tf
namespace Tf
open PySem L2 PyProof.Rows
section
variable {C : Ct} {H : Hp} {Z : Addr -> Prop} {ρ : List Addr}
end
section
variable {X : Cx} {N : Nm} {cl : Tf.Cls} {call : Call} {fuel : Nat}
theorem EQ.newO {C : Ct} {Z0 : Addr -> Prop} {ρ : List Addr} {h : Hh} {H : Hp} {Q : VK} {p : Addr} {u : HO} {o : O} (q : EQ C Z0 ρ h H Q (.ok (.loc h.length) (h ++ [o]))) (hr : HR C Z0 ρ h H) (np : H p = none)
  (new : OR C (upd H p u) (Av (ρ ++ [p]) (h ++ [o]) Z0) (ρ ++ [p]) p o) : Q (.ref p) (upd H p u) :=
 q (ρ ++ [p]) _ _ (Ex.alloc hr np) (HR.alloc hr np new) ⟨p, by rw [<- hr.len]; simp, rfl⟩
def iOb2 (C : Ct) (x : Env -> Hh -> Res R) : TI := fun σ H Rr => ∃ Z0 ρ h env, HR C Z0 ρ h H ∧ ER C H (Av ρ h Z0) ρ env σ ∧ match x env h with
 | .ok (.loc l) h1 => (match rsOf h1[l]? with
  | some rs => ∀ ρ1 H1 a, Ex ρ h H ρ1 h1 H1 -> HR C Z0 ρ1 h1 H1 -> ρ1[l]? = some a -> Rr (match h1[l]? with | some (.tup _) => Itt C.K a | _ => Itl C.K a) H1
  | _ => False)
 | _ => False
theorem si_ob2 {tg e : Expr} {ie : E} (p : PE X e (tEv (ct N X) (ev cl call ie))) : PI X tg e (iOb2 (ct N X) (ev cl call ie)) :=
 ⟨fun pins s σ H Rr I q => by
  obtain ⟨Z0, ρ, h, env, hr, er, q⟩ := q
  split at q
  case h_2 => exact q.elim
  rename_i l h1 e0
  split at q
  case h_2 => exact q.elim
  rename_i rs eo
  cases ez : h1[l]? with
  | none => rw [ez] at eo; cases eo
  | some ob =>
   cases ob with
   | lst us =>
    refine (pi_list p).run pins s σ H Rr I (tEv.bind hr er e0 fun H1 ρ1 v n1 rr => ?_)
    obtain ⟨a, ea, hx⟩ := rr
    obtain ⟨vs, e4, rv⟩ := n1.hr.ob l _ a ez ea (by intro z; cases z)
    have := q ρ1 H1 a n1.ex n1.hr ea
    rw [ez] at this
    exact ⟨a, hx, ⟨vs, .of e4⟩, this⟩
   | tup us =>
    refine (pi_tup p).run pins s σ H Rr I (tEv.bind hr er e0 fun H1 ρ1 v n1 rr => ?_)
    obtain ⟨a, ea, hx⟩ := rr
    obtain ⟨vs, e4, rv⟩ := n1.hr.ob l _ a ez ea (by intro z; cases z)
    have := q ρ1 H1 a n1.ex n1.hr ea
    rw [ez] at this
    exact ⟨a, hx, ⟨vs, e4.t⟩, this⟩
   | _ => rw [ez] at eo; cases eo⟩
structure SrcO (C : Ct) (J : It) (a : Addr) (rs : List R) (l : Nat) (ob : O) : Prop where
 go : ∀ Z0 ρ h H, HR C Z0 ρ h H -> ρ[l]? = some a -> h[l]? = some ob -> ∀ i w, rs[i]? = some w -> J.go i H ∧ ∀ x H', J.yld i H x H' -> H' = H ∧ RR C H (Av ρ h Z0) ρ w x
 stop : ∀ Z0 ρ h H, HR C Z0 ρ h H -> ρ[l]? = some a -> h[l]? = some ob -> J.stop rs.length H
theorem srcO_lst {C : Ct} {a : Addr} {rs : List R} {l : Nat} : SrcO C (Itl C.K a) a rs l (.lst rs) where
 go := fun Z0 ρ h H hr ea eo i w hw => by
  obtain ⟨us, e, r⟩ := hr.ob l _ a eo ea (by intro z; cases z)
  obtain ⟨v0, h0, r0⟩ := rrs_get r hw
  refine ⟨⟨us, v0, .of e, h0⟩, fun x H' y => ?_⟩
  obtain ⟨rfl, y2⟩ := y
  have y3 := y2 us (.of e)
  simp_all
 stop := fun Z0 ρ h H hr ea eo => by
  obtain ⟨us, e, r⟩ := hr.ob l _ a eo ea (by intro z; cases z)
  exact ⟨us, .of e, by rw [rrs_len r]; exact Nat.le_refl _⟩
theorem srcO_tup {C : Ct} {a : Addr} {rs : List R} {l : Nat} : SrcO C (Itt C.K a) a rs l (.tup rs) where
 go := fun Z0 ρ h H hr ea eo i w hw => by
  obtain ⟨us, e, r⟩ := hr.ob l _ a eo ea (by intro z; cases z)
  obtain ⟨v0, h0, r0⟩ := rrs_get r hw
  refine ⟨⟨us, v0, e.t, h0⟩, fun x H' y => ?_⟩
  obtain ⟨rfl, y2⟩ := y
  have y3 := y2 us e.t
  simp_all
 stop := fun Z0 ρ h H hr ea eo => by
  obtain ⟨us, e, r⟩ := hr.ob l _ a eo ea (by intro z; cases z)
  exact ⟨us, e.t, by rw [rrs_len r]; exact Nat.le_refl _⟩
theorem forO_turns {C : Ct} {J : It} {a : Addr} {rs : List R} {l : Nat} {ob : O} {Z0 : Addr -> Prop} {ρ1 : List Addr} {h1 : Hh} {H1 : Hp} {t : T} {body : Env -> Hh -> Res Out} {D : Ends} {σ : Sg} {env : Env} (S : SrcO C J a rs l ob) (ea : ρ1[l]? = some a) (hr : HR C Z0 ρ1 h1 H1) (er : ER C H1 (Av ρ1 h1 Z0) ρ1 env σ)
  (q : ES C Z0 ρ1 h1 H1 D (forLoopO t [(l, ob)] body rs env h1)) :
  ∃ W : Nat -> Nat -> Sg -> Hp -> Prop, (∃ m, W 0 m σ H1) ∧ ∀ i m σ H, W i m σ H ->
   (J.stop i H ∧ D.nx σ H) ∨ (J.go i H ∧ ∃ Nn : Sg -> Hp -> Prop, (∀ σ' H', Nn σ' H' -> ∃ m', m' < m ∧ W (i + 1) m' σ' H') ∧ ∀ x H', J.yld i H x H' -> gT C t x σ H' fun σ2 H2 => tEx C body { D with nx := Nn, ct := Nn, bk := D.nx } σ2 H2) := by
 let P : Nat -> Sg -> Hp -> Prop := fun i σ H => ∃ ρ' h' env', Ex ρ1 h1 H1 ρ' h' H ∧ HR C Z0 ρ' h' H ∧ ER C H (Av ρ' h' Z0) ρ' env' σ ∧ ES C Z0 ρ' h' H D (forLoopO t [(l, ob)] body (rs.drop i) env' h')
 refine ⟨fun i m σ H => m = rs.length - i ∧ i <= rs.length ∧ P i σ H, ⟨rs.length, by simp, Nat.zero_le _, ρ1, h1, env, .refl, hr, er, by simpa using q⟩, ?_⟩
 rintro i m σ H ⟨rfl, hi, ρ', h', env', ex, hr', er', q⟩
 by_cases hlt : i < rs.length
 ·have hd : rs.drop i = rs[i] :: rs.drop (i + 1) := List.drop_eq_getElem_cons hlt
  rw [hd] at q
  unfold forLoopO at q
  split at q
  case isFalse => exact q.elim
  rename_i hs
  obtain ⟨g1, g2⟩ := S.go Z0 ρ' h' H hr' (ex.get ea) (still_mem hs (l, ob) (by simp)) i rs[i] (by simp)
  cases e : setT t rs[i] env' with
  | none => rw [e] at q; exact q.elim
  | some env1 =>
   rw [e] at q
   dsimp only at q
   refine .inr ⟨g1, P (i + 1), fun σ' H' p => ⟨rs.length - (i + 1), by omega, rfl, hlt, p⟩, fun x H' y => ?_⟩
   obtain ⟨rfl, y2⟩ := g2 x H' y
   refine ⟨_, ρ', env', rs[i], env1, er', .inl y2, e, fun σ2 er2 _ => ?_⟩
   refine ⟨Z0, ρ', h', env1, hr', er2, ?_⟩
   cases eb : body env1 h' with
   | ex c v => rw [eb] at q; exact q.elim
   | no => rw [eb] at q; exact q.elim
   | ok o h2 =>
    rw [eb] at q
    obtain ⟨fl, env2⟩ := o
    cases fl with
    | nx => exact fun ρ3 H3 σ3 ex3 hr3 er3 => ⟨ρ3, h2, env2, ex.trans ex3, hr3, er3, ES.later ex3 q⟩
    | bk => exact fun ρ3 H3 σ3 ex3 hr3 er3 => q ρ3 H3 σ3 ex3 hr3 er3
    | rt r => exact fun ρ3 H3 v ex3 hr3 rr => q ρ3 H3 v ex3 hr3 rr
 ·have e : i = rs.length := by omega
  subst e
  rw [List.drop_eq_nil_of_le (Nat.le_refl _)] at q
  unfold forLoopO at q
  split at q
  case isFalse => exact q.elim
  rename_i hs
  exact .inl ⟨S.stop Z0 ρ' h' H hr' (ex.get ea) (still_mem hs (l, ob) (by simp)), q ρ' H σ .refl hr' er'⟩
theorem ss_forO {tg iter : Expr} {body : List Stmt} {t : T} {it : E} {ib : List S} {pos : Pos} (hp : PassesOwn (model X.prog X.w) X.A X.env X.xe) (hc : X.calm = true) (hi : PE X iter (tEv (ct N X) (ev cl call it))) (hg : PG X tg (gT (ct N X) t))
  (hb : PSs X body (tEx (ct N X) (execs cl call fuel ib))) (hs : ∀ x, foldedSetIterable iter X.env x = pure x) : PS X (.For tg iter body [] pos) (tEx (ct N X) (exec cl call fuel (.forO t it ib))) :=
 PS.imp (ps_for hp hc (si_ob2 hi) hg hb hs) fun D σ H ⟨Z0, ρ, h, env, hr, er, q⟩ => by
  refine ⟨Z0, ρ, h, env, hr, er, ?_⟩
  unfold exec at q
  split at q
  case h_2 => exact q.elim
  rename_i l h1 e0
  try rw [e0]
  try dsimp only
  split at q
  case h_2 => exact q.elim
  rename_i rs eo
  try rw [eo]
  intro ρ1 H1 a ex hr1 ea
  cases ez : h1[l]? with
  | none => rw [ez] at eo; cases eo
  | some ob =>
   rw [ez] at q
   cases ob with
   | lst us => rw [ez] at eo; cases eo; exact forO_turns srcO_lst ea hr1 (er.ex ex) (ES.later ex q)
   | tup us => rw [ez] at eo; cases eo; exact forO_turns srcO_tup ea hr1 (er.ex ex) (ES.later ex q)
   | _ => rw [ez] at eo; cases eo
def rTupL (C : Ct) : List V -> Hp -> VK -> Prop := fun xs H Q => ∃ Z0 ρ h l rs, HR C Z0 ρ h H ∧ RRs C H (Av ρ h Z0) ρ [.loc l] xs ∧ h[l]? = some (.lst rs) ∧ EQ C Z0 ρ h H Q (.ok (.loc h.length) (h ++ [.tup rs]))
theorem o_tupL : CallR X (.type "tuple") (rTupL (ct N X)) := by
 intro pins s σ H xs us Q I r ⟨Z0, ρ, h, l, rs, hr, rr, eo, q⟩
 obtain ⟨x, rfl, r1⟩ := rrs1 rr
 obtain ⟨a, ea, rfl⟩ := r1
 obtain ⟨vs, e1, rl⟩ := hr.ob l _ a eo ea (by intro z; cases z)
 exact n_tupleOf pins s σ H _ us Q I r ⟨a, vs, rfl, .inl ⟨.of e1, fun p o hp ho => EQ.newO q hr hp ⟨_, ⟨o, upd_same, ho⟩, RRs.ex (Ex.alloc hr hp) rl⟩⟩⟩
mutual
theorem solid_any {C : Ct} {H : Hp} {Z Z' : Addr -> Prop} (nz : ∀ a c dx fs, H a = some (.ins c dx fs) -> ¬ Z a -> ¬ Z' a) : ∀ (w : W) (v : V), solidB w = true -> VR C H Z w v -> VR C H Z' w v
 | .non, v, _, r => by unfold VR at r ⊢; exact r
 | .bl _, v, _, r => by unfold VR at r ⊢; exact r
 | .int _, v, _, r => by unfold VR at r ⊢; exact r
 | .str _, v, _, r => by unfold VR at r ⊢; exact r
 | .rep _, v, _, r => by unfold VR at r ⊢; exact r
 | .tup ws, v, s, r => by
  unfold VR at r ⊢
  unfold solidB at s
  obtain ⟨a, vs, e, n, r⟩ := r
  exact ⟨a, vs, e, n, solids_any nz ws vs s r⟩
 | .ins c ns ws, v, s, r => by
  unfold VR at r ⊢
  unfold solidB at s
  obtain ⟨a, dx, fs, e, e2, n, f, r⟩ := r
  exact ⟨a, dx, fs, e, e2, nz a _ _ _ e2 n, f, solids_any nz ws _ s r⟩
 | .lst _, v, s, _ => by unfold solidB at s; cases s
 | .dct _ _, v, s, _ => by unfold solidB at s; cases s
 | .exc _ _, v, s, _ => by unfold solidB at s; cases s
 | .scr _, v, s, _ => by unfold solidB at s; cases s
theorem solids_any {C : Ct} {H : Hp} {Z Z' : Addr -> Prop} (nz : ∀ a c dx fs, H a = some (.ins c dx fs) -> ¬ Z a -> ¬ Z' a) : ∀ (ws : List W) (vs : List V), solids ws = true -> VRs C H Z ws vs -> VRs C H Z' ws vs
 | [], vs, _, r => by unfold VRs at r ⊢; exact r
 | w :: ws, vs, s, r => by
  unfold solids at s
  rw [Bool.and_eq_true] at s
  unfold VRs at r ⊢
  obtain ⟨v, t, e, r1, r2⟩ := r
  exact ⟨v, t, e, solid_any nz w v s.1 r1, solids_any nz ws t s.2 r2⟩
end
theorem noins_at {C : Ct} {Z0 : Addr -> Prop} {ρ : List Addr} {h : Hh} {H : Hp} (hr : HR C Z0 ρ h H) (n : h.all noIns = true) : ∀ a c dx fs, H a = some (.ins c dx fs) -> ¬ Live ρ h a := fun a c dx fs e ⟨i, o, e1, e2, d⟩ => by
 have r := hr.ob i o a e2 e1 d
 have no := List.all_eq_true.mp n o (List.mem_of_getElem? e2)
 cases o with
 | dead => simp_all
 | ins _ _ _ => cases no
 | lst rs => obtain ⟨vs, q, _⟩ := r; rw [e] at q; cases q
 | dct ks us => obtain ⟨kv, vv, ⟨o, q⟩, _⟩ := r; rw [e] at q; cases q
 | tup rs => obtain ⟨vs, ⟨o, q, _⟩, _⟩ := r; rw [e] at q; cases q
 | exc _ _ => cases no
end
section
variable {X : Cx} {N : Nm} {cl : Tf.Cls} {call : Call} {fuel : Nat} {CX : CXT} {k i : Nat} {f C : Addr} {fdt : FuncData} {ps : List Str} {x m : Str} {e o : Expr} {es : List Expr} {io : E} {ies : List E} {pos p : Pos}
theorem se_kd (F : Cal X.prog X.w X.K X.mg X.base CX N cl fuel call k i f fdt ps) (hr : RoomG k X.A) (hg : Gl X x) (hm : X.mg x = some (.ref f)) (hk : PySem.W.keepIn X.K (.ref f) = true) (hb : Binds X.K fdt ps []) (hx : ∀ E, Passes CX X E)
  (ha : PA X (e :: es) (tEvs (ct N X) (evs cl call ies))) (hdb : (x == ("__debug__" : Str)) = false) (he : starEach (e :: es) X.env = (false, eval e X.env) :: starEach es X.env) (hpl : (backTo pos (starEach es X.env)).any (·.1) = false) :
  PE X (.Call (.Name x p) (e :: es) [] pos) (tEv (ct N X) (ev cl call (.call .kd i ies))) := by
 rcases F with n | ⟨fd, call', hc, F⟩
 ·exact no_call (t := fun _ _ _ => True) n
 ·refine PE.imp (call_g (E := fun _ _ _ => False) F hr hg hm hk hb .nil (hx _) ha hdb he hpl) fun σ H Q ⟨Z0, ρ, h, env, hr, er, q⟩ => ?_
  unfold ev at q
  refine ⟨Z0, ρ, h, env, hr, er, ?_⟩
  cases e1 : evs cl call ies env h with
  | ex c v => rw [e1] at q; exact q.elim
  | no => rw [e1] at q; exact q.elim
  | ok rs h1 =>
   rw [e1] at q
   dsimp only at q
   rw [hc] at q
   exact fun ρ1 H1 vs ex hr1 rr => by show spR _ _ _ _ _ (vs ++ []) H1 Q _; rw [vapp]; exact kd_core hr1 rr (EQ.later ex q)
theorem P.kd {x : Str} (F : Cal X.prog X.w X.K X.mg X.base CX0 N cl fuel call k i f fdt ps) (hr : RoomG k X.A) (hm : X.mg x = some (.ref f)) (hk : PySem.W.keepIn X.K (.ref f) = true) (hb : Binds X.K fdt ps [])
  (ha : PA X (e :: es) (tEvs (ct N X) (evs cl call ies))) (hg : Gl X x := by rfl) (hdb : (x == ("__debug__" : Str)) = false := by decide) (he : starEach (e :: es) X.env = (false, eval e X.env) :: starEach es X.env := by rfl) (hpl : (backTo pos (starEach es X.env)).any (·.1) = false := by rfl) :
  PE X (.Call (.Name x p) (e :: es) [] pos) (tEv (ct N X) (ev cl call (.call .kd i ies))) := se_kd F hr hg hm hk hb (fun _ _ _ _ _ _ _ _ h => h.elim) ha hdb he hpl
theorem P.tupL {e : Expr} {ie : E} (hm : X.mg "tuple" = none) (he : PE X e (tEv (ct N X) (ev cl call ie))) (hg : Gl X "tuple" := by rfl) (hs : starEach [e] X.env = (false, eval e X.env) :: starEach [] X.env := by rfl) :
  PE X (.Call (.Name "tuple" p) [e] [] pos) (tEv (ct N X) (ev cl call (.tupL ie))) :=
 PE.imp (pe_callTy (o_tupL (N := N)) hg hm (by rfl) (pa_cons he pa_nil hs) (by decide) (by decide) hs (by rfl)) fun σ H Q ⟨Z0, ρ, h, env, hr, er, q⟩ => by
  unfold ev at q
  split at q
  case h_2 => exact q.elim
  rename_i l h1 e1
  refine tEv.bind hr er e1 fun H1 ρ1 v n1 rr => ?_
  split at q
  case h_2 => exact q.elim
  rename_i rs eo
  exact ⟨Z0, ρ1, h1, l, rs, n1.hr, ⟨v, [], rfl, rr, rfl⟩, eo, EQ.later n1.ex q⟩
theorem P.forO {tg iter : Expr} {body : List Stmt} {t : T} {it : E} {ib : List S} {pos : Pos} (hi : PE X iter (tEv (ct N X) (ev cl call it))) (hg : PG X tg (gT (ct N X) t)) (hb : PSs X body (tEx (ct N X) (execs cl call fuel ib))) (hp : PassesOwn (model X.prog X.w) X.A X.env X.xe := by exact PassesOwn.never)
  (hc : X.calm = true := by rfl) (hs : ∀ x, foldedSetIterable iter X.env x = pure x := by intro _; rfl) : PS X (.For tg iter body [] pos) (tEx (ct N X) (exec cl call fuel (.forO t it ib))) := by simp_all [ss_forO]
end
section
variable {X : Cx} {N : Nm} {cl : Tf.Cls} {call : Call} {fuel : Nat} {tg iter elt : Expr} {ifs : List Expr} {scope : Scope} {pos : Pos} {t : T} {k : IK} {its cs : List E} {ie : E}
theorem P.lcN (own : List (Str × Nat)) (hN : X.N.Nodup) (hi : PI X tg iter (iSr (ct N X) t k (evs cl call its)))
  (hg : Blk X scope fun Y => PG Y tg (gT (ct N X) t)) (ht : Blk X scope fun Y => PTs Y ifs (tTs (ct N X) (tests cl call cs))) (he : Blk X scope fun Y => PE Y elt (tEv (ct N X) (ev cl call ie)))
  (ok : blkC X.N X.env.scope scope own = true := by kernel_rfl) (k1 : ∀ i ∈ own.map (·.2), i ∈ slotsT t := by decide) (k2 : ∀ i ∈ slotsT t, i ∈ own.map (·.2) := by decide) (hc : X.calm = true := by rfl) (hs : ∀ x, foldedSetIterable iter X.env x = pure x := by intro _; rfl) :
  PE X (.ListComp elt [⟨tg, iter, ifs, 0⟩] scope pos) (tEv (ct N X) (ev cl call (.lcN t k its cs ie))) := se_lcN hc hN hi (blkOk_by ok) k1 k2 hg ht he hs
end
end Tf
namespace Tf
open PySem L2 PyProof.Rows
def AllP (Q : Nat -> Addr -> Prop) : List (Nat × Addr) -> Prop
 | [] => True
 | (c, C) :: r => Q c C ∧ AllP Q r
def nmCls : List (Nat × Addr) -> Nat -> Addr
 | [], _ => 0
 | (c, C) :: r, x => if x = c then C else nmCls r x
def nmOwn : List (Nat × Addr) -> Nat -> Bool
 | [], _ => false
 | (c, _) :: r, x => if x = c then true else nmOwn r x
def nmFld : List Str -> Nat -> Str
 | [], _ => ""
 | x :: _, 0 => x
 | _ :: r, n + 1 => nmFld r n
def nmOf (cs : List (Nat × Addr)) (fs : List Str) (xs : List (Nat × Addr) := []) : Nm := ⟨fun c => if nmOwn cs c then nmCls cs c else nmCls xs c, nmFld fs, nmOwn cs⟩
theorem nm_own {cs : List (Nat × Addr)} {fs : List Str} {xs : List (Nat × Addr)} {c : Nat} (h : nmOwn cs c = true) : (nmOf cs fs xs).cls c = nmCls cs c := if_pos h
theorem own_use {Q : Nat -> Addr -> Prop} : ∀ {cs : List (Nat × Addr)}, AllP Q cs -> ∀ c, nmOwn cs c = true -> Q c (nmCls cs c)
 | [], _, c, h => by cases h
 | (c0, C) :: r, ⟨q, a⟩, c, h => by
  unfold nmOwn at h
  unfold nmCls
  by_cases e : c = c0
  ·simp_all
  ·rw [if_neg e] at h ⊢; exact own_use a c h
structure BtOk (K : PySem.W.Frag) (u : Value) (ts : List Ty) : Prop where
 non : PySem.W.kitOne K (.type "NoneType") u = some (ts.any fun t => isInst t .non)
 bl : PySem.W.kitOne K (.type "bool") u = some (ts.any fun t => isInst t (.bl true))
 int : PySem.W.kitOne K (.type "int") u = some (ts.any fun t => isInst t (.int 0))
 str : PySem.W.kitOne K (.type "str") u = some (ts.any fun t => isInst t (.str []))
 tup : PySem.W.kitOne K (.type "tuple") u = some (ts.any fun t => isInst t (.tup []))
 lst : PySem.W.kitOne K (.type "list") u = some (ts.any fun t => isInst t (.lst []))
 dct : PySem.W.kitOne K (.type "dict") u = some (ts.any fun t => isInst t (.dct [] []))
structure OwnK (K : PySem.W.Frag) (C : Addr) : Prop where
 cl : L2.Cls K C
 dc : PySem.W.findIn K (.ref C) "__class__" = some (some (.builtin "object.__class__"))
 mr : PySem.W.mroIn K C (.type "object") = some true
theorem isi_mk {K : PySem.W.Frag} {cs xs : List (Nat × Addr)} {fs : List Str} {u : Value} {ts : List Ty} (b : BtOk K u ts)
  (g : PySem.W.specialIn K (.builtin "object.__class__") "__get__" = some (some (.builtin "getset_descriptor.__get__")) ∧ PySem.W.takesIn K (.builtin "object.__class__") = some true)
  (o : AllP (fun _ C => OwnK K C) cs) (k : AllP (fun c C => PySem.W.kitOne K (.ref C) u = some (ts.any fun t => isInst t (.ins c [] []))) cs) : IsiOk K (nmOf cs fs xs) u ts :=
 ⟨b.non, b.bl, b.int, b.str, b.tup, b.lst, b.dct, fun c h => by
  have q := own_use o c h
  rw [nm_own h]
  exact ⟨q.cl, q.dc, g.1, g.2, q.mr, own_use k c h⟩⟩
def TopDef (K : PySem.W.Frag) (mg : Str -> Option Value) (x : Str) (st : Stmt) (ps : List Str) : Prop :=
 ∃ (f : Addr) (fdt : FuncData), mg x = some (.ref f) ∧ Fun K x x st f fdt ∧ Binds K fdt ps [] ∧ PySem.W.keepIn K (.ref f) = true ∧ ∀ (s : Shared) (us : List Value), us.length = ps.length -> BindsTo s fdt ⟨us, []⟩ (ps.zip us)
def deadFd : Fd := ⟨0, 0, [.brk], []⟩
section
variable {P : Program} {w : World} {K : PySem.W.Frag} {mg : Str -> Option Value} {base : Heap} {N : Nm} {cl : Tf.Cls} {fds : List Fd} {fuel : Nat} {ad : Nat -> Addr} {fdt : Nat -> FuncData} {ps : Nat -> List Str}
theorem dead_no {d i : Nat} (h : fds[i]? = some deadFd ∨ fds[i]? = none) : ∀ m rs h, callN cl fds fuel d m i rs h = .no := by
 intro m rs hh
 cases d with
 | zero => rfl
 | succ d =>
  unfold callN
  rcases h with h | h
  ·rw [h]
   have r : ∀ as h, runFd cl (callN cl fds fuel d) fuel deadFd as h = .no := fun as h => by
    unfold runFd
    split
    ·rfl
    ·rfl
   unfold runBy
   cases m with
   | pu =>
    dsimp only
    split
    ·rw [r]; rfl
    ·rfl
   | kp =>
    dsimp only
    split
    ·rw [r]; rfl
    ·rfl
   | kd =>
    dsimp only
    split
    ·rw [r]; rfl
    ·rfl
   | kq =>
    dsimp only
    split
    ·rw [r]; rfl
    ·rfl
   | hp => exact r _ _
   | xr => show runXd _ _ _ _ _ _ = _; unfold runXd; split <;> rfl
   | mk C =>
    dsimp only
    split <;> simp_all
  ·rw [h]
theorem cal_all (step : ∀ d, (∀ i, Cal P w K mg base CX0 N cl fuel (callN cl fds fuel d) (2 * d) i (ad i) (fdt i) (ps i)) -> ∀ i, Cal P w K mg base CX0 N cl fuel (callN cl fds fuel (d + 1)) (2 * d + 2) i (ad i) (fdt i) (ps i)) :
  ∀ d i, Cal P w K mg base CX0 N cl fuel (callN cl fds fuel d) (2 * d) i (ad i) (fdt i) (ps i)
 | 0, i => .inl fun _ _ _ => rfl
 | d + 1, i => step d (cal_all step d) i
theorem cal_one {d i : Nat} {fd : Fd} (e : fds[i]? = some fd) (F : FnG P w K mg base CX0 (2 * d + 2) (ad i) (fdt i) (ps i) (spR ⟨w, K, N.cls, N.fld, N.own⟩ cl (callN cl fds fuel d) fuel fd)) :
  Cal P w K mg base CX0 N cl fuel (callN cl fds fuel (d + 1)) (2 * d + 2) i (ad i) (fdt i) (ps i) := .inr ⟨fd, callN cl fds fuel d, fun m rs h => by rw [callN, e], F⟩
def spLaw (K : PySem.W.Frag) : Sp := fun vs H Q _ => ∃ (a : Addr) (ns : List Int), vs = [.ref a] ∧ SqL K H a (ns.map V.int) ∧ ns.length <= 63 ∧ ∀ H', Q (.bl true) H'
theorem law_sp {fd : Fd} {call : Call} {k : Nat} {f : Addr} {fdt : FuncData} {ps : List Str} (F : FnG P w K mg base CX0 k f fdt ps (spR ⟨w, K, N.cls, N.fld, N.own⟩ cl call fuel fd))
  (run : ∀ ns : List Int, ns.length <= 63 -> ∃ h, runFd cl call fuel fd [.w (.scr ns)] [] = .ok (.w (.bl true)) h) : FnG P w K mg base CX0 k f fdt ps (spLaw K) :=
 F.imp fun vs H Q E ⟨a, ns, e, sq, hn, q⟩ => by
  obtain ⟨h', er⟩ := run ns hn
  refine ⟨fun _ => False, [], [], [.w (.scr ns)], ⟨rfl, List.nodup_nil, fun n o a h => by simp at h, fun a z => z.elim, fun a h => by simp at h, fun a h => by simp at h⟩, ?_, ?_⟩
  ·subst e
   refine ⟨_, [], rfl, ?_, rfl⟩
   refine ⟨a, rfl, ?_⟩
   rcases sq with sq | sq
   ·refine .inl ⟨sq, fun z => ?_⟩
    rcases z with ⟨n, o, z, _⟩ | z <;> simp_all
   ·exact .inr sq
  ·rw [er]
   exact fun ρ' H' v ex hr rr => by
    rw [rr_bl rr]
    grind
end
theorem call_law {P : Program} {w : World} {K : PySem.W.Frag} {mg mb : Str -> Option Value} {k : Nat} {fa a : Addr} {fd : FuncData} {x : Str} {s : Shared} {vs : List Value} {ns : List Int}
  (kin : K.In s.heap) (hg : s.heap.Ns mainGlobals mg) (hb : s.heap.Ns builtinsNs mb) (hbb : ∀ y : Str, y ≠ "__name__" -> mb y = bootBuiltins y) (nolim : s.heap.NoLimit) (gens : s.gens = #[])
  (ha : s.heap.get? a = some { cls := .type "list", data := .seq vs.toArray }) (hi : IntsAre vs ns) (hl : ns.length <= 63) (hr : RoomG k callerA)
  (F : ∀ base : Heap, K.In base -> base.Ns mainGlobals mg -> FnG P w K mg base CX0 k fa fd [x] (spLaw K)) (hbind : ∀ (t : Shared) (u : Value), BindsTo t fd ⟨[u], []⟩ [(x, u)]) :
  codeAny (model P w) callerA (.call (.ref fa) ⟨[.ref a], []⟩) (fun r t => r = .ok (.ret (.bool true)) ∧ OldK s.heap t.heap ∧ t.os = s.os ∧ AllBare t.gens) s := by
 have rv := L2.vals_ints hi
 have nl := hi.length
 have main : ∀ G : Hp, (∀ b, G b = none ∨ ∃ o xs, G b = some (.frz o (.lst xs))) -> SqL K G a (ns.map V.int) -> HOk P w G s.heap -> (∀ b, G b ≠ none -> b = a ∧ K.lookup a = none) ->
   codeAny (model P w) callerA (.call (.ref fa) ⟨[.ref a], []⟩) (fun r t => r = .ok (.ret (.bool true)) ∧ OldK s.heap t.heap ∧ t.os = s.os ∧ AllBare t.gens) s := by
  intro G only sq hok hA
  have keep : ∀ {b : Addr} {m : Str -> Option Value}, s.heap.Ns b m -> (hidT s.heap G).Ns b m := fun {b m} ⟨o, es, ep, e, d, r⟩ => ⟨o, es, ep, hidT_get e (by
   cases q : G b with
   | none => rfl
   | some u =>
    obtain ⟨rfl, _⟩ := hA b (by rw [q]; simp)
    rw [ha] at e; cases e
    have d' : Data.seq vs.toArray _ = Data.dict es ep := d
    cases d'), d, r⟩
  have kb : K.In (hidT s.heap G) := fun b o e => hidT_get (kin b o e) (by
   cases q : G b with
   | none => rfl
   | some u =>
    obtain ⟨rfl, n⟩ := hA b (by rw [q]; simp)
    rw [n] at e; cases e)
  have md : Mod K mg (hidT s.heap G) := ⟨kb, keep hg, ⟨mb, keep hb, hbb⟩, let ⟨mc, h1, h2⟩ := nolim; ⟨mc, keep h1, h2⟩⟩
  have e0 : Env0 P w K mg (hidT s.heap G) callerA [] s G := ⟨rfl, md, fun b o e => of_hidT e, Nat.le_of_eq (hidT_size _ _), trivial, fun b z => absurd (show b ∈ ([] : List Addr) from z) (by simp), hok, .of_eq gens⟩
  refine codeAny_mono ((F _ kb (keep hg)).run callerA [] s G ⟨[.ref a], []⟩ [.ref a] [.ref a] (fun v _ => v = .bl true) (fun _ _ _ => False) hr e0 (hbind s (.ref a)) (.cons rfl .nil) ⟨a, ns, rfl, sq, hl, fun _ => rfl⟩) fun r t z => ?_
  cases r with
  | error e => exact z.elim
  | ok fl => cases fl with
   | ret u =>
    obtain ⟨v, G2, os, bare, un, hok2, r2, q⟩ := z
    cases (show v = .bl true from q)
    cases (show u = Value.bool true from r2)
    refine ⟨rfl, OldK.of_keep fun b o e => ?_, os, bare⟩
    rcases only b with n | ⟨ob, xs, n⟩
    ·exact un.keep b o e n (by intro y; exact absurd (show b ∈ ([] : List Addr) from y) (by simp)) (by simp)
    ·have e1 := (hok b _ n).1
     have e2 := (hok2 b _ (un.frzs b ob _ n)).1
     rw [e] at e1; cases e1
     exact e2
   | _ => exact z.elim
 cases hk : K.lookup a with
 | some o =>
  have e := kin a o hk
  rw [ha] at e
  cases e
  exact main (fun _ => none) (fun _ => .inl rfl) (.inr ⟨_, vs.toArray, _, hk, rfl, rfl, rfl, by rw [List.size_toArray, nl]; exact Nat.le_trans hl (by decide), by simpa using rv⟩) (fun b u z => nomatch (show (none : Option HO) = some u from z)) fun b z => absurd rfl z
 | none =>
  let G : Hp := fun b => if b = a then some (.frz { cls := .type "list", data := .seq vs.toArray } (.lst (ns.map V.int))) else none
  have ga : G a = some (.frz { cls := .type "list", data := .seq vs.toArray } (.lst (ns.map V.int))) := if_pos rfl
  have gn : ∀ {b : Addr}, b ≠ a -> G b = none := fun h => if_neg h
  have at_a : ∀ {b : Addr}, G b ≠ none -> b = a := fun {b} z => Decidable.byContradiction fun n => z (gn n)
  refine main G (fun b => ?_) (.inl (.inr ⟨_, ga⟩)) (fun b u z => ?_) fun b z => ⟨at_a z, hk⟩
  ·by_cases h : b = a
   ·exact .inr ⟨_, _, h ▸ ga⟩
   ·exact .inl (gn h)
  ·obtain rfl := at_a (b := b) (by rw [z]; simp)
   rw [ga] at z
   cases z
   exact ⟨ha, by rw [List.length_map]; exact Nat.le_trans hl (by decide), vs, _, rv, ha⟩
end Tf
namespace Tf
open PySem L2 PyProof.Rows
theorem rrs_appM {C : Ct} {H : Hp} {Z : Addr -> Prop} {ρ : List Addr} : ∀ {rs us : List R} {vs zs : List V}, RRs C H Z ρ rs vs -> RRs C H Z ρ us zs -> RRs C H Z ρ (rs ++ us) (vs ++ zs)
 | [], _, _, _, h1, h2 => by unfold RRs at h1; subst h1; exact h2
 | r :: rs, _, _, _, h1, h2 => by
  unfold RRs at h1
  obtain ⟨v, t, rfl, q1, q2⟩ := h1
  exact ⟨v, t ++ _, rfl, q1, rrs_appM q2 h2⟩
section
variable {X : Cx} {N : Nm} {cl : Cls} {call : Call} {a b : Expr} {ia ib : E} {pos : Pos}
theorem P.catO (p1 : PE X a (tEv (ct N X) (ev cl call ia))) (p2 : PE X b (tEv (ct N X) (ev cl call ib))) : PE X (.BinOp a .Add b pos) (tEv (ct N X) (ev cl call (.op .catO [ia, ib]))) :=
 PE.imp (pe_op op_cat p1 p2) fun σ H Q ⟨Z0, ρ, h, env, hr, er, q⟩ => by
  unfold ev at q
  unfold evs at q
  cases e1 : ev cl call ia env h with
  | ex c v => rw [e1] at q; exact q.elim
  | no => rw [e1] at q; exact q.elim
  | ok r1 h1 =>
   rw [e1] at q
   dsimp only at q
   unfold evs at q
   refine tEv.bind hr er e1 fun H1 ρ1 v1 n1 rr1 => ?_
   cases e2 : ev cl call ib env h1 with
   | ex c v => rw [e2] at q; exact q.elim
   | no => rw [e2] at q; exact q.elim
   | ok r2 h2 =>
    rw [e2] at q
    simp only [evs] at q
    refine tEv.bind n1.hr n1.er e2 fun H2 ρ2 v2 n2 rr2 => ?_
    have q : EQ (ct N X) Z0 ρ h H Q (opR .catO [r1, r2] h2) := q
    have rr1 := RR.ex n2.ex rr1
    cases r1 with
    | w w1 => cases r2 <;> exact q.elim
    | loc l =>
     cases r2 with
     | w w2 => exact q.elim
     | loc l2 =>
      have e : opR .catO [.loc l, .loc l2] h2 = match oh_catO [.loc l, .loc l2] h2 with | some (r, h') => .ok r h' | none => .no := rfl
      rw [e] at q
      unfold oh_catO at q
      dsimp only at q
      obtain ⟨pa, ea, rfl⟩ := rr1
      obtain ⟨pb, eb, rfl⟩ := rr2
      cases eo : h2[l]? with
      | none => rw [eo] at q; exact q.elim
      | some ob =>
       rw [eo] at q
       cases eo2 : h2[l2]? with
       | none => rw [eo2] at q; cases ob <;> exact q.elim
       | some ob2 =>
        rw [eo2] at q
        cases ob with
        | lst rs =>
         cases ob2 with
         | lst us =>
          dsimp only at q
          by_cases hz : rs.length + us.length <= sizeMax
          ·rw [if_pos hz] at q
           obtain ⟨vs, a1, rl⟩ := n2.hr.ob l _ pa eo ea (by intro z; cases z)
           obtain ⟨zs, a2, rl2⟩ := n2.hr.ob l2 _ pb eo2 eb (by intro z; cases z)
           refine ⟨pa, pb, vs, zs, rfl, rfl, a1, ?_, by rw [rrs_len rl, rrs_len rl2]; exact sz_line hz, fun p hp => ?_⟩
           ·exact a2
           ·have ex : Ex ρ2 h2 H2 (ρ2 ++ [p]) (h2 ++ [.lst (rs ++ us)]) (L2.upd H2 p (.lst (vs ++ zs))) := Ex.alloc n2.hr hp
            exact q (ρ2 ++ [p]) _ _ ((n1.ex.trans n2.ex).trans ex) (HR.alloc n2.hr hp ⟨vs ++ zs, L2.upd_same, RRs.ex ex (rrs_appM rl rl2)⟩) ⟨p, by rw [<- n2.hr.len]; simp, rfl⟩
          ·rw [if_neg hz] at q; exact q.elim
         | _ => exact q.elim
        | _ => exact q.elim
end
end Tf
namespace Tf
open PySem L2 PyProof.Rows
section
variable {C : Ct} {cl : Cls} {call : Call} {fuel : Nat} {fd : Fd} {Z0 : Addr -> Prop} {ρ : List Addr} {h : Hh} {H : Hp} {rs : List R} {vs : List V} {Q : VK} {E : XK}
theorem hp_core (hr : HR C Z0 ρ h H) (rr : RRs C H (Av ρ h Z0) ρ rs vs) (q : EQ C Z0 ρ h H Q (runBy cl fuel fd call .hp rs h)) : spR C cl call fuel fd vs H Q E := ⟨Z0, ρ, h, rs, hr, rr, q⟩
end
section
variable {X : Cx} {N : Nm} {cl : Tf.Cls} {call : Call} {fuel : Nat} {CX : CXT} {k i : Nat} {f C : Addr} {fdt : FuncData} {ps : List Str} {x m : Str} {e o : Expr} {es : List Expr} {io : E} {ies : List E} {pos p : Pos}
theorem se_hp (F : Cal X.prog X.w X.K X.mg X.base CX N cl fuel call k i f fdt ps) (hr : RoomG k X.A) (hg : Gl X x) (hm : X.mg x = some (.ref f)) (hk : PySem.W.keepIn X.K (.ref f) = true) (hb : Binds X.K fdt ps []) (hx : ∀ E, Passes CX X E)
  (ha : PA X (e :: es) (tEvs (ct N X) (evs cl call ies))) (hdb : (x == ("__debug__" : Str)) = false) (he : starEach (e :: es) X.env = (false, eval e X.env) :: starEach es X.env) (hpl : (backTo pos (starEach es X.env)).any (·.1) = false) :
  PE X (.Call (.Name x p) (e :: es) [] pos) (tEv (ct N X) (ev cl call (.call .hp i ies))) := by
 rcases F with n | ⟨fd, call', hc, F⟩
 ·exact no_call (t := fun _ _ _ => True) n
 ·refine PE.imp (call_g (E := fun _ _ _ => False) F hr hg hm hk hb .nil (hx _) ha hdb he hpl) fun σ H Q ⟨Z0, ρ, h, env, hr, er, q⟩ => ?_
  unfold ev at q
  refine ⟨Z0, ρ, h, env, hr, er, ?_⟩
  cases e1 : evs cl call ies env h with
  | ex c v => rw [e1] at q; exact q.elim
  | no => rw [e1] at q; exact q.elim
  | ok rs h1 =>
   rw [e1] at q
   dsimp only at q
   rw [hc] at q
   exact fun ρ1 H1 vs ex hr1 rr => by show spR _ _ _ _ _ (vs ++ []) H1 Q _; rw [vapp]; exact hp_core hr1 rr (EQ.later ex q)
theorem P.hp {x : Str} (F : Cal X.prog X.w X.K X.mg X.base CX0 N cl fuel call k i f fdt ps) (hr : RoomG k X.A) (hm : X.mg x = some (.ref f)) (hk : PySem.W.keepIn X.K (.ref f) = true) (hb : Binds X.K fdt ps [])
  (ha : PA X (e :: es) (tEvs (ct N X) (evs cl call ies))) (hg : Gl X x := by rfl) (hdb : (x == ("__debug__" : Str)) = false := by decide) (he : starEach (e :: es) X.env = (false, eval e X.env) :: starEach es X.env := by rfl) (hpl : (backTo pos (starEach es X.env)).any (·.1) = false := by rfl) :
  PE X (.Call (.Name x p) (e :: es) [] pos) (tEv (ct N X) (ev cl call (.call .hp i ies))) := se_hp F hr hg hm hk hb (fun _ _ _ _ _ _ _ _ h => h.elim) ha hdb he hpl
end
end Tf
namespace Tf
open PySem L2 PyProof.Rows
section
variable {C : Ct} {H : Hp} {Z Z' : Addr -> Prop} {ρ ρ' : List Addr} {n m : Nat}
theorem rrs_sol (nz : ∀ a c dx fs, H a = some (.ins c dx fs) -> ¬ Z a -> ¬ Z' a) (pl : ∀ (k : Nat) (a : Addr), n <= k -> ρ[k]? = some a -> ρ'[k - n + m]? = some a) : ∀ {rs rs' : List R} {vs : List V}, rs.all solidR = true -> RRs C H Z ρ rs vs -> shRs n m rs = some rs' -> RRs C H Z' ρ' rs' vs
 | [], rs', vs, _, r, e => by cases e; exact r
 | r :: rs, rs', vs, s, ⟨v, t, e0, r1, r2⟩, e => by
  rw [List.all_cons, Bool.and_eq_true] at s
  unfold shRs at e
  cases e1 : shR n m r with
  | none => simp_all
  | some r' =>
   cases e2 : shRs n m rs with
   | none => simp_all
   | some rs1 =>
    rw [e1, e2] at e
    cases e
    refine ⟨v, t, e0, ?_, rrs_sol nz pl s.2 r2 e2⟩
    cases r with
    | w w => cases e1; exact solid_any nz w v s.1 r1
    | loc k =>
     unfold shR at e1
     dsimp only at e1
     by_cases hk : n <= k
     ·rw [if_pos hk] at e1
      cases e1
      obtain ⟨a, ea, ev⟩ := r1
      exact ⟨a, pl k a hk ea, ev⟩
     ·rw [if_neg hk] at e1; cases e1
theorem or_sol (nz : ∀ a c dx fs, H a = some (.ins c dx fs) -> ¬ Z a -> ¬ Z' a) (pl : ∀ (k : Nat) (a : Addr), n <= k -> ρ[k]? = some a -> ρ'[k - n + m]? = some a) {o o' : O} {a : Addr} (s : solidO o = true) (r : OR C H Z ρ a o) (e : shO n m o = some o') : OR C H Z' ρ' a o' := by
 have mp : ∀ {rs : List R} {f : List R -> O}, (shRs n m rs).map f = some o' -> ∃ rs', shRs n m rs = some rs' ∧ o' = f rs' := fun {rs f} z => by
  cases q : shRs n m rs <;> simp_all
 cases o with
 | dead => cases e
 | exc _ _ => cases s
 | lst rs =>
  obtain ⟨rs', e1, rfl⟩ := mp e
  obtain ⟨vs, e2, r2⟩ := r
  exact ⟨vs, e2, rrs_sol nz pl s r2 e1⟩
 | dct ks us =>
  obtain ⟨rs', e1, rfl⟩ := mp e
  obtain ⟨kv, vv, e2, r1, r2⟩ := r
  have s : (solids ks && us.all solidR) = true := s
  rw [Bool.and_eq_true] at s
  exact ⟨kv, vv, e2, solids_any nz ks kv s.1 r1, rrs_sol nz pl s.2 r2 e1⟩
 | ins c ns us => cases s
 | tup rs =>
  obtain ⟨rs', e1, rfl⟩ := mp e
  obtain ⟨vs, e2, r2⟩ := r
  exact ⟨vs, e2, rrs_sol nz pl s r2 e1⟩
end
section
variable {X : Cx} {N : Nm} {cl : Tf.Cls} {call : Call} {e : Expr} {ie : E}
theorem ev_snapO {env : Env} {h : Hh} : ev cl call (.snapO ie) env h = match ev cl call ie (snapE h env) [] with
  | .ok (.loc l) g => if g.all solidO && h.all noIns then match shOs 0 h.length g with
   | some os => .ok (.loc (l + h.length)) (h ++ os)
   | none => .no
   else .no
  | _ => .no := by
 rw [ev]
 all_goals (cases ev cl call ie (snapE h env) [] with
  | ok r h1 => cases r <;> rfl
  | _ => rfl)
theorem snapO_back {C : Ct} {Z0 : Addr -> Prop} {ρ ρ' : List Addr} {h g os : Hh} {H H' : Hp} (hr : HR C Z0 ρ h H) (ex : Ex [] [] H ρ' g H') (hr' : HR C Z0 ρ' g H') (so : g.all solidO = true) (ni : h.all noIns = true) (eo : shOs 0 h.length g = some os) :
  Ex ρ h H (ρ ++ ρ') (h ++ os) H' ∧ HR C Z0 (ρ ++ ρ') (h ++ os) H' := by
 have k : ∀ a o, H a = some o -> H' a = some o := fun a o e => (ex.fr a o e (fun ⟨n, o, z, _⟩ => by simp at z)).1
 obtain ⟨l2, sg⟩ := shOs_get eo
 have lr' : ρ'.length = g.length := hr'.len
 have lr : ρ.length = h.length := hr.len
 have own : ∀ (i : Nat) (a : Addr), ρ'[i]? = some a -> ∃ o o2, g[i]? = some o ∧ os[i]? = some o2 ∧ shO 0 h.length o = some o2 ∧ Live ρ' g a := fun i a ea => by
  have hlt : i < g.length := by rw [<- lr']; exact (List.getElem?_eq_some_iff.mp ea).1
  obtain ⟨o2, e2, e3⟩ := sg i _ (List.getElem?_eq_getElem hlt)
  exact ⟨_, o2, List.getElem?_eq_getElem hlt, e2, e3, i, _, ea, List.getElem?_eq_getElem hlt, sh_alive e3⟩
 have np : ∀ a, a ∈ ρ' -> H a = none := fun a ha => by
  obtain ⟨i, ea⟩ := List.mem_iff_getElem?.mp ha
  obtain ⟨_, _, _, _, _, lv⟩ := own i a ea
  cases q : H a with
  | none => rfl
  | some u => exact absurd lv (ex.fr a u q (fun ⟨n, o, z, _⟩ => by simp at z)).2
 have live2 : ∀ a, Live (ρ ++ ρ') (h ++ os) a -> Live ρ h a ∨ a ∈ ρ' := fun a ⟨i, o, e1, e2, d⟩ => by
  by_cases hi : i < ρ.length
  ·rw [List.getElem?_append_left hi] at e1
   rw [List.getElem?_append_left (by omega)] at e2
   exact .inl ⟨i, o, e1, e2, d⟩
  ·rw [List.getElem?_append_right (by omega)] at e1
   exact .inr (List.mem_of_getElem? e1)
 have x2 : Ex ρ h H (ρ ++ ρ') (h ++ os) H' := ⟨⟨ρ', rfl⟩, fun a u e n => ⟨k a u e, fun z => by
  rcases live2 a z with z | z
  ·exact n z
  ·rw [np a z] at e; cases e⟩, ex.tp, ex.xp⟩
 refine ⟨x2, ⟨by rw [List.length_append, List.length_append, l2, lr, lr'], ?_, fun i o a e1 e2 d => ?_, fun a z => ?_, fun a z => ?_, fun a z z0 => ?_⟩⟩
 ·rw [List.nodup_append]
  refine ⟨hr.nd, hr'.nd, fun a ha b hb => ?_⟩
  rintro rfl
  obtain ⟨u, e⟩ := hr.tr a ha
  rw [np a hb] at e; cases e
 ·by_cases hi : i < ρ.length
  ·rw [List.getElem?_append_left hi] at e2
   rw [List.getElem?_append_left (by omega)] at e1
   exact OR_ex (hr.ob i o a e1 e2 d) x2 fun u => k a u
  ·rw [List.getElem?_append_right (by omega)] at e2
   rw [List.getElem?_append_right (by omega)] at e1
   obtain ⟨u, u2, y1, y2, y3, _⟩ := own _ a e2
   rw [show i - h.length = i - ρ.length by omega, y2] at e1
   cases e1
   have su : solidO u = true := List.all_eq_true.mp so u (List.mem_of_getElem? y1)
   refine or_sol (fun b c dx fs eb nb => ?_) (fun k b _ eb => ?_) su (hr'.ob _ _ _ y1 e2 (sh_alive y3)) y3
   ·rintro (z | z)
    ·obtain ⟨j, v, f1, f2, fd⟩ := z
     by_cases hj : j < ρ.length
     ·rw [List.getElem?_append_left hj] at f1
      rw [List.getElem?_append_left (by omega)] at f2
      have hr3 := (snap_back hr ex).2
      exact noins_at hr3 ni b c dx fs eb ⟨j, v, f1, f2, fd⟩
     ·rw [List.getElem?_append_right (by omega)] at f1
      obtain ⟨_, _, _, _, _, lv⟩ := own _ b f1
      exact nb (.inl lv)
    ·exact nb (.inr z)
   ·rw [Nat.sub_zero, List.getElem?_append_right (by omega), show k + h.length - ρ.length = k by omega]
    exact eb
 ·obtain ⟨o, e⟩ := hr.zd a z
  exact ⟨o, k a o e⟩
 ·rcases List.mem_append.mp z with z | z
  ·obtain ⟨o, e⟩ := hr.tr a z
   exact ⟨o, k a o e⟩
  ·exact hr'.tr a z
 ·rcases List.mem_append.mp z with z | z
  ·exact hr.dj a z z0
  ·exact hr'.dj a z z0
theorem se_snapO (he : PE X e (tEv (ct N X) (ev cl call ie))) : PE X e (tEv (ct N X) (ev cl call (.snapO ie))) :=
 PE.imp he fun σ H Q ⟨Z0, ρ, h, env, hr, er, q⟩ => by
  rw [ev_snapO] at q
  obtain ⟨hr2, er2⟩ := snap_ctx hr er
  refine ⟨Z0, [], [], _, hr2, er2, ?_⟩
  cases e1 : ev cl call ie (snapE h env) [] with
  | ex c v => rw [e1] at q; exact q.elim
  | no => rw [e1] at q; exact q.elim
  | ok r g =>
   rw [e1] at q
   cases r with
   | w w => exact q.elim
   | loc l =>
    dsimp only at q
    split at q
    ·rename_i s
     rw [Bool.and_eq_true] at s
     cases eo : shOs 0 h.length g with
     | none => rw [eo] at q; exact q.elim
     | some os =>
      rw [eo] at q
      intro ρ' H' v ex hr' rr
      obtain ⟨x, hr3⟩ := snapO_back hr ex hr' s.1 s.2 eo
      obtain ⟨a, ea, rfl⟩ := rr
      refine q (ρ ++ ρ') H' (.ref a) x hr3 ⟨a, ?_, rfl⟩
      rw [List.getElem?_append_right (by rw [hr.len]; omega), show l + h.length - ρ.length = l by rw [hr.len]; omega]
      exact ea
    ·exact q.elim
end
theorem shFOs_get {f : Nat -> Option Nat} {h : Hh} : ∀ {ks : List Nat} {os : Hh}, shFOs f h ks = some os -> os.length = ks.length ∧ ∀ (j k : Nat), ks[j]? = some k -> ∃ o o', h[k]? = some o ∧ os[j]? = some o' ∧ shFO f o = some o'
 | [], os, e => by cases e; exact ⟨rfl, fun j k z => by simp at z⟩
 | k :: ks, os, e => by
  unfold shFOs at e
  cases e0 : h[k]? with
  | none => simp_all
  | some o =>
   rw [e0] at e
   dsimp only at e
   cases e1 : shFO f o with
   | none => simp_all
   | some o1 =>
    cases e2 : shFOs f h ks with
    | none => rw [e1, e2] at e; cases e
    | some os1 =>
     rw [e1, e2] at e
     cases e
     obtain ⟨l, g⟩ := shFOs_get e2
     refine ⟨by simp [l], fun j u z => ?_⟩
     cases j with
     | zero => simp_all
     | succ j => exact g j u z
theorem shF_alive {f : Nat -> Option Nat} {o o' : O} (e : shFO f o = some o') : o ≠ .dead := fun z => by subst z; cases e
theorem nodup_of : ∀ {ix : List Nat}, nodupB ix = true -> ix.Nodup
 | [], _ => List.nodup_nil
 | k :: ks, h => by
  unfold nodupB at h
  rw [Bool.and_eq_true] at h
  refine List.nodup_cons.mpr ⟨fun z => ?_, nodup_of h.2⟩
  have := h.1
  simp [z] at this
theorem ixF_get {ix : List Nat} {m k k' : Nat} (e : ixF ix m k = some k') : ∃ j, k' = m + j ∧ ix[j]? = some k := by
 unfold ixF at e
 by_cases c : ix.idxOf k < ix.length
 ·rw [if_pos c] at e
  cases e
  refine ⟨ix.idxOf k, rfl, ?_⟩
  rw [List.getElem?_eq_getElem c, List.getElem_idxOf c]
 ·rw [if_neg c] at e; cases e
section
variable {C : Ct} {H : Hp} {Z Z' : Addr -> Prop} {ρ ρ' : List Addr} {f : Nat -> Option Nat}
theorem rrs_shF (av : ∀ a, Z' a -> Z a) (pl : ∀ (k k' : Nat) (a : Addr), f k = some k' -> ρ[k]? = some a -> ρ'[k']? = some a) : ∀ {rs rs' : List R} {vs : List V}, RRs C H Z ρ rs vs -> shFRs f rs = some rs' -> RRs C H Z' ρ' rs' vs
 | [], rs', vs, r, e => by cases e; exact r
 | r :: rs, rs', vs, ⟨v, t, e0, r1, r2⟩, e => by
  unfold shFRs at e
  cases e1 : shFR f r with
  | none => simp_all
  | some r' =>
   cases e2 : shFRs f rs with
   | none => simp_all
   | some rs1 =>
    rw [e1, e2] at e
    cases e
    refine ⟨v, t, e0, ?_, rrs_shF av pl r2 e2⟩
    cases r with
    | w w => cases e1; exact VR.mono av r1
    | loc k =>
     unfold shFR at e1
     dsimp only at e1
     cases e3 : f k with
     | none => rw [e3] at e1; cases e1
     | some k' =>
      rw [e3] at e1
      cases e1
      obtain ⟨a, ea, ev⟩ := r1
      exact ⟨a, pl k k' a e3 ea, ev⟩
theorem or_shF (av : ∀ a, Z' a -> Z a) (pl : ∀ (k k' : Nat) (a : Addr), f k = some k' -> ρ[k]? = some a -> ρ'[k']? = some a) {o o' : O} {a : Addr} (r : OR C H Z ρ a o) (e : shFO f o = some o') : OR C H Z' ρ' a o' := by
 have mp : ∀ {rs : List R} {g : List R -> O}, (shFRs f rs).map g = some o' -> ∃ rs', shFRs f rs = some rs' ∧ o' = g rs' := fun {rs g} z => by
  cases q : shFRs f rs <;> simp_all
 cases o with
 | dead => cases e
 | exc c r0 =>
  obtain ⟨y, e2, r2⟩ := r
  unfold shFO at e
  cases e3 : shFR f r0 with
  | none => simp [e3] at e
  | some r1 =>
   have eo : o' = .exc c r1 := by simpa [e3] using e.symm
   subst eo
   obtain ⟨v, t, q1, q2, _⟩ := rrs_shF (rs := [r0]) (rs' := [r1]) (vs := [y]) av pl ⟨y, [], rfl, r2, rfl⟩ (by unfold shFRs shFRs; rw [e3])
   cases q1
   exact ⟨y, e2, q2⟩
 | lst rs =>
  obtain ⟨rs', e1, rfl⟩ := mp e
  obtain ⟨vs, e2, r2⟩ := r
  exact ⟨vs, e2, rrs_shF av pl r2 e1⟩
 | dct ks us =>
  obtain ⟨rs', e1, rfl⟩ := mp e
  obtain ⟨kv, vv, e2, r1, r2⟩ := r
  exact ⟨kv, vv, e2, VRs.mono av r1, rrs_shF av pl r2 e1⟩
 | ins c ns us =>
  obtain ⟨rs', e1, rfl⟩ := mp e
  obtain ⟨dx, fs, e2, e3, r2⟩ := r
  exact ⟨dx, fs, e2, e3, rrs_shF av pl r2 e1⟩
 | tup rs =>
  obtain ⟨rs', e1, rfl⟩ := mp e
  obtain ⟨vs, e2, r2⟩ := r
  exact ⟨vs, e2, rrs_shF av pl r2 e1⟩
end
section
variable {C : Ct} {cl : Cls} {call : Call} {fuel : Nat} {fd : Fd} {Z0 : Addr -> Prop} {ρ : List Addr} {h : Hh} {H : Hp} {rs : List R} {vs : List V} {Q : VK} {E : XK}
theorem kq_core (hr : HR C Z0 ρ h H) (rr : RRs C H (Av ρ h Z0) ρ rs vs) (q : EQ C Z0 ρ h H Q (runBy cl fuel fd call .kq rs h)) : spR C cl call fuel fd vs H Q E := by
 unfold runBy at q
 cases e : hand rs h 0 with
 | none => rw [e] at q; exact q.elim
 | some x =>
  obtain ⟨ls, as, os⟩ := x
  rw [e] at q
  dsimp only at q
  have hd := hand_ok e
  by_cases isw : ∃ w g, runFd cl call fuel fd as os = .ok (.w w) g
  ·obtain ⟨w, g, ew⟩ := isw
   refine pu_core hr rr ?_
   unfold runBy
   dsimp only
   rw [e]
   dsimp only
   rw [ew] at q ⊢
   unfold afterQ at q
   unfold after
   dsimp only at q ⊢
   split at q
   ·rename_i hc
    rw [if_pos hc, show fz g ls.length 20 (.w w) = some w from by unfold fz; rfl]
    exact q
   ·exact q.elim
  refine ⟨Zc ρ h Z0 ls, ls.map (adr ρ), os, as, hd.start hr, ?_, ?_⟩
  ·have := hand_args (pre := []) (Z' := Av (ls.map (adr ρ)) os (Zc ρ h Z0 ls)) hr.len (fun a z => z.elim (fun z => .inl (hd.live hr z)) fun z => z.1) e rfl rr
   exact this
  ·cases er : runFd cl call fuel fd as os with
   | ex c v => rw [er] at q; exact q.elim
   | no => rw [er] at q; exact q.elim
   | ok r h' =>
    rw [er] at q
    intro ρ' H' v ex hr' rr'
    unfold afterQ at q
    cases r with
    | w w => simp_all
    | loc l =>
     dsimp only at q
     split at q
     ·rename_i hc
      obtain ⟨fl, hc⟩ := and2 hc
      obtain ⟨hl, hn⟩ := and2 hc
      have lx : ∃ t, reach h' 20 (.loc l) = l :: t := ⟨_, by rw [reach]⟩
      generalize reach h' 20 (.loc l) = ix at q hl hn lx
      have hn := nodup_of hn
      have hl : ∀ k ∈ ix, ls.length <= k := fun k hk => Nat.le_of_ble_eq_true (List.all_eq_true.mp hl k hk)
      cases eo : shFOs (ixF ix h.length) h' ix with
      | none => rw [eo] at q; exact q.elim
      | some os2 =>
       rw [eo] at q
       dsimp only at q
       obtain ⟨l2, sg⟩ := shFOs_get eo
       obtain ⟨p, ep, rfl⟩ := rr'
       have lr' : ρ'.length = h'.length := hr'.len
       have at_ : ∀ (j k : Nat), ix[j]? = some k -> ρ'[k]? = some (adr ρ' k) := fun j k ej => by
        obtain ⟨o, _, e1, _⟩ := sg j k ej
        have := (List.getElem?_eq_some_iff.mp e1).1
        unfold adr
        rw [List.getElem?_eq_getElem (by omega)]
        rfl
       have own : ∀ (j k : Nat), ix[j]? = some k -> ∃ o o2, h'[k]? = some o ∧ os2[j]? = some o2 ∧ shFO (ixF ix h.length) o = some o2 ∧ Live ρ' h' (adr ρ' k) := fun j k ej => by
        obtain ⟨o, o2, e1, e2, e3⟩ := sg j k ej
        exact ⟨o, o2, e1, e2, e3, k, o, at_ j k ej, e1, shF_alive e3⟩
       let N : Addr -> Prop := fun a => ∃ (j k : Nat), ix[j]? = some k ∧ a = adr ρ' k
       have B := hd.back (Zx := fun a => Z0 a ∨ N a) hr ex hr' fl fun a z => z.imp id fun ⟨j, k, ej, ea⟩ => by
        subst ea
        obtain ⟨_, _, _, _, _, lv⟩ := own j k ej
        exact ⟨lv, k, hl k (List.mem_of_getElem? ej), at_ j k ej⟩
       have np : ∀ a, N a -> H a = none := fun a ⟨j, k, ej, ea⟩ => by
        subst ea
        obtain ⟨_, _, _, _, _, lv⟩ := own j k ej
        cases q : H (adr ρ' k) with
        | none => rfl
        | some u =>
         by_cases z : Live (ls.map (adr ρ)) os (adr ρ' k)
         ·obtain ⟨i, x, e1, _, _⟩ := z
          have := nodup_get hr'.nd (at_ j k ej) (ex.get e1)
          have h1 := (List.getElem?_eq_some_iff.mp e1).1
          have h2 := hl k (List.mem_of_getElem? ej)
          simp at h1
          omega
         ·exact absurd lv (ex.fr _ u q z).2
       have nz : ∀ a, N a -> ¬ Z0 a := fun a n z => by obtain ⟨u, q⟩ := hr.zd a z; rw [np a n] at q; cases q
       obtain ⟨Bex, Bhr, Bav⟩ := B
       generalize hp : putBack ls (h'.take ls.length) h = h1 at Bex Bhr Bav q
       have lh1 : h1.length = h.length := by rw [<- hp]; exact putBack_len
       have lρ : ρ.length = h1.length := Bhr.len
       have dl : (ix.map (adr ρ')).length = os2.length := by rw [List.length_map, l2]
       have inN : ∀ a, a ∈ ix.map (adr ρ') -> N a := fun a ha => by
        obtain ⟨k, hk, rfl⟩ := List.mem_map.mp ha
        obtain ⟨j, ej⟩ := List.mem_iff_getElem?.mp hk
        exact ⟨j, k, ej, rfl⟩
       have live2 : ∀ a, Live (ρ ++ ix.map (adr ρ')) (h1 ++ os2) a -> Live ρ h1 a ∨ N a := fun a ⟨i, o, e1, e2, d⟩ => by
        by_cases hi : i < ρ.length
        ·rw [List.getElem?_append_left hi] at e1
         rw [List.getElem?_append_left (by omega)] at e2
         exact .inl ⟨i, o, e1, e2, d⟩
        ·rw [List.getElem?_append_right (by omega)] at e1
         exact .inr (inN a (List.mem_of_getElem? e1))
       have avO : ∀ a, Av (ρ ++ ix.map (adr ρ')) (h1 ++ os2) Z0 a -> Av ρ h1 (fun a => Z0 a ∨ N a) a := fun a z => z.elim (fun z => (live2 a z).imp id .inr) fun z => .inr (.inl z)
       have avN : ∀ a, Av (ρ ++ ix.map (adr ρ')) (h1 ++ os2) Z0 a -> Av ρ' h' (Zc ρ h Z0 ls) a := fun a z => by
        have bv : ∀ a, Av ρ h1 Z0 a -> Av ρ' h' (Zc ρ h Z0 ls) a := fun a z => by
         have := Bav a z
         exact this.elim (fun ⟨_, _, _, q⟩ => .inl q) .inr
        rcases z with z | z
        ·rcases live2 a z with z | ⟨j, k, ej, ea⟩
         ·exact bv a (.inl z)
         ·subst ea
          obtain ⟨_, _, _, _, _, lv⟩ := own j k ej
          exact .inl lv
        ·exact bv a (.inr z)
       have pl : ∀ (k k' : Nat) (a : Addr), ixF ix h.length k = some k' -> ρ'[k]? = some a -> (ρ ++ ix.map (adr ρ'))[k']? = some a := fun k k' a hk ea => by
        obtain ⟨j, rfl, ej⟩ := ixF_get hk
        rw [List.getElem?_append_right (by omega), show h.length + j - ρ.length = j by omega, List.getElem?_map, ej]
        have := at_ j k ej
        rw [ea] at this
        cases this
        rfl
       have rrO : ∀ {rs : List R} {vs : List V}, RRs C H' (Av ρ h1 fun a => Z0 a ∨ N a) ρ rs vs -> RRs C H' (Av (ρ ++ ix.map (adr ρ')) (h1 ++ os2) Z0) (ρ ++ ix.map (adr ρ')) rs vs := by
        intro rs
        induction rs with
        | nil => intro vs r; exact r
        | cons r rs ih =>
         rintro vs ⟨v, t, e0, r1, r2⟩
         refine ⟨v, t, e0, ?_, ih r2⟩
         cases r with
         | w w => exact VR.mono avO r1
         | loc k =>
          obtain ⟨a, ea, ev⟩ := r1
          exact ⟨a, by rw [List.getElem?_append_left (List.getElem?_eq_some_iff.mp ea).1]; exact ea, ev⟩
       have hr2 : HR C Z0 (ρ ++ ix.map (adr ρ')) (h1 ++ os2) H' := by
        refine ⟨by rw [List.length_append, List.length_append, dl, lρ], ?_, fun i o a e1 e2 d => ?_, fun a z => Bhr.zd a (.inl z), fun a z => ?_, fun a z z0 => ?_⟩
        ·rw [List.nodup_append]
         refine ⟨Bhr.nd, ?_, fun a ha b hb => ?_⟩
         ·refine List.nodup_iff_pairwise_ne.mpr (List.pairwise_map.mpr ?_)
          refine (List.nodup_iff_pairwise_ne.mp hn).imp_of_mem fun {a b} ha hb ne z => ne ?_
          obtain ⟨j, ej⟩ := List.mem_iff_getElem?.mp ha
          obtain ⟨j2, ej2⟩ := List.mem_iff_getElem?.mp hb
          have h1 := at_ j a ej
          rw [z] at h1
          exact nodup_get hr'.nd h1 (at_ j2 b ej2)
         ·rintro rfl
          exact Bhr.dj a ha (.inr (inN a hb))
        ·by_cases hi : i < ρ.length
         ·rw [List.getElem?_append_left hi] at e2
          rw [List.getElem?_append_left (by omega)] at e1
          have r := Bhr.ob i o a e1 e2 d
          cases o with
          | lst rs => obtain ⟨vs, e, r⟩ := r; exact ⟨vs, e, rrO r⟩
          | dct ks us => obtain ⟨kv, vv, e, r1, r2⟩ := r; exact ⟨kv, vv, e, VRs.mono avO r1, rrO r2⟩
          | ins c ns us => obtain ⟨dx, fs, e, e2, r⟩ := r; exact ⟨dx, fs, e, e2, rrO r⟩
          | tup rs => obtain ⟨vs, e, r⟩ := r; exact ⟨vs, e, rrO r⟩
          | exc c r0 =>
           obtain ⟨y, e, r⟩ := r
           obtain ⟨v, t, e5, r5, _⟩ := rrO (rs := [r0]) (vs := [y]) ⟨y, [], rfl, r, rfl⟩
           cases e5
           exact ⟨y, e, r5⟩
          | dead => trivial
         ·rw [List.getElem?_append_right (by omega), List.getElem?_map] at e2
          rw [List.getElem?_append_right (by omega)] at e1
          cases ej : ix[i - ρ.length]? with
          | none => rw [ej] at e2; cases e2
          | some k =>
           rw [ej] at e2
           cases e2
           obtain ⟨u, u2, x1, x2, x3, _⟩ := own _ k ej
           rw [show i - h1.length = i - ρ.length by omega, x2] at e1
           cases e1
           exact or_shF avN pl (hr'.ob _ _ _ x1 (at_ _ k ej) (shF_alive x3)) x3
        ·rcases List.mem_append.mp z with z | z
         ·exact Bhr.tr a z
         ·exact Bhr.zd a (.inr (inN a z))
        ·rcases List.mem_append.mp z with z | z
         ·exact Bhr.dj a z (.inl z0)
         ·exact nz a (inN a z) z0
       have ex2 : Ex ρ h H (ρ ++ ix.map (adr ρ')) (h1 ++ os2) H' := by
        refine ⟨⟨_, rfl⟩, fun a u e n => ?_, Bex.tp, Bex.xp⟩
        obtain ⟨e1, n1⟩ := Bex.fr a u e n
        refine ⟨e1, fun z => ?_⟩
        rcases live2 a z with z | z
        ·exact n1 z
        ·rw [np a z] at e; cases e
       obtain ⟨t, rfl⟩ := lx
       refine q _ H' (.ref p) ex2 hr2 ⟨p, ?_, rfl⟩
       rw [List.getElem?_append_right (by omega), show h.length - ρ.length = 0 by omega]
       have := at_ 0 l rfl
       rw [ep] at this
       cases this
       rfl
     ·exact q.elim
end
section
variable {X : Cx} {N : Nm} {cl : Tf.Cls} {call : Call} {fuel : Nat} {CX : CXT} {k i : Nat} {f C : Addr} {fdt : FuncData} {ps : List Str} {x m : Str} {e o : Expr} {es : List Expr} {io : E} {ies : List E} {pos p : Pos}
theorem se_kq (F : Cal X.prog X.w X.K X.mg X.base CX N cl fuel call k i f fdt ps) (hr : RoomG k X.A) (hg : Gl X x) (hm : X.mg x = some (.ref f)) (hk : PySem.W.keepIn X.K (.ref f) = true) (hb : Binds X.K fdt ps []) (hx : ∀ E, Passes CX X E)
  (ha : PA X (e :: es) (tEvs (ct N X) (evs cl call ies))) (hdb : (x == ("__debug__" : Str)) = false) (he : starEach (e :: es) X.env = (false, eval e X.env) :: starEach es X.env) (hpl : (backTo pos (starEach es X.env)).any (·.1) = false) :
  PE X (.Call (.Name x p) (e :: es) [] pos) (tEv (ct N X) (ev cl call (.call .kq i ies))) := by
 rcases F with n | ⟨fd, call', hc, F⟩
 ·exact no_call (t := fun _ _ _ => True) n
 ·refine PE.imp (call_g (E := fun _ _ _ => False) F hr hg hm hk hb .nil (hx _) ha hdb he hpl) fun σ H Q ⟨Z0, ρ, h, env, hr, er, q⟩ => ?_
  unfold ev at q
  refine ⟨Z0, ρ, h, env, hr, er, ?_⟩
  cases e1 : evs cl call ies env h with
  | ex c v => rw [e1] at q; exact q.elim
  | no => rw [e1] at q; exact q.elim
  | ok rs h1 =>
   rw [e1] at q
   dsimp only at q
   rw [hc] at q
   exact fun ρ1 H1 vs ex hr1 rr => by show spR _ _ _ _ _ (vs ++ []) H1 Q _; rw [vapp]; exact kq_core hr1 rr (EQ.later ex q)
theorem P.kq {x : Str} (F : Cal X.prog X.w X.K X.mg X.base CX0 N cl fuel call k i f fdt ps) (hr : RoomG k X.A) (hm : X.mg x = some (.ref f)) (hk : PySem.W.keepIn X.K (.ref f) = true) (hb : Binds X.K fdt ps [])
  (ha : PA X (e :: es) (tEvs (ct N X) (evs cl call ies))) (hg : Gl X x := by rfl) (hdb : (x == ("__debug__" : Str)) = false := by decide) (he : starEach (e :: es) X.env = (false, eval e X.env) :: starEach es X.env := by rfl) (hpl : (backTo pos (starEach es X.env)).any (·.1) = false := by rfl) :
  PE X (.Call (.Name x p) (e :: es) [] pos) (tEv (ct N X) (ev cl call (.call .kq i ies))) := se_kq F hr hg hm hk hb (fun _ _ _ _ _ _ _ _ h => h.elim) ha hdb he hpl
theorem P.snapO (he : PE X e (tEv (ct N X) (ev cl call io))) : PE X e (tEv (ct N X) (ev cl call (.snapO io))) := se_snapO he
end
end Tf
namespace Tf
open PySem L2 PyProof.Rows
section
variable {X : Cx} {N : Nm} {cl : Tf.Cls} {call : Call} {fuel : Nat}
end
section
variable {X : Cx} {N : Nm} {cl : Cls} {call : Call} {e : Expr} {ie : E} {p apos cpos pos : Pos}
end
end Tf
namespace Tf
open PySem L2 PyProof.Rows
structure SrcR (C : Ct) (t : T) (J : It) (rs : List R) (st : List (Nat × O)) (Z0 : Addr -> Prop) (ρ : List Addr) (h : Hh) (H : Hp) : Prop where
 go : ∀ Z1 ρ' h' H', ExZ Z0 Z1 ρ h H ρ' h' H' -> HR C Z1 ρ' h' H' -> still h' st = true -> ∀ (i : Nat) (r : R), rs[i]? = some r -> J.go i H' ∧
  ∀ x H'', J.yld i H' x H'' -> (H'' = H' ∨ ∃ p o, H' p = none ∧ H'' = upd H' p o) ∧ RT C H'' (Av ρ' h' Z1) ρ' t r x
 stop : ∀ Z1 ρ' h' H', ExZ Z0 Z1 ρ h H ρ' h' H' -> HR C Z1 ρ' h' H' -> still h' st = true -> J.stop rs.length H'
theorem Src.r {C : Ct} {t : T} {J : It} {ws : List W} {st : List (Nat × O)} {Z0 : Addr -> Prop} {ρ : List Addr} {h : Hh} {H : Hp} (S : Src C t J ws st Z0 ρ h H) : SrcR C t J (ws.map R.w) st Z0 ρ h H where
 go := fun Z1 ρ' h' H' x hr hs i r e => by
  rw [List.getElem?_map] at e
  cases ew : ws[i]? with
  | none => rw [ew] at e; cases e
  | some w =>
   rw [ew] at e
   cases e
   exact S.go Z1 ρ' h' H' x hr hs i w ew
 stop := fun Z1 ρ' h' H' x hr hs => by rw [List.length_map]; exact S.stop Z1 ρ' h' H' x hr hs
theorem SrcO.r {C : Ct} {t : T} {J : It} {a : Addr} {rs : List R} {l : Nat} {ob : O} {Z0 : Addr -> Prop} {ρ : List Addr} {h : Hh} {H : Hp} (S : SrcO C J a rs l ob) (ea : ρ[l]? = some a) : SrcR C t J rs [(l, ob)] Z0 ρ h H where
 go := fun Z1 ρ' h' H' x hr hs i r e => by
  obtain ⟨u, eu⟩ := x.pre
  have ea' : ρ'[l]? = some a := by rw [eu, List.getElem?_append_left (List.getElem?_eq_some_iff.mp ea).1]; exact ea
  obtain ⟨g1, g2⟩ := S.go Z1 ρ' h' H' hr ea' (still_mem hs (l, ob) (by simp)) i r e
  refine ⟨g1, fun y H'' q => ?_⟩
  obtain ⟨rfl, rr⟩ := g2 y H'' q
  exact ⟨.inl rfl, .inl rr⟩
 stop := fun Z1 ρ' h' H' x hr hs => by
  obtain ⟨u, eu⟩ := x.pre
  have ea' : ρ'[l]? = some a := by rw [eu, List.getElem?_append_left (List.getElem?_eq_some_iff.mp ea).1]; exact ea
  exact S.stop Z1 ρ' h' H' hr ea' (still_mem hs (l, ob) (by simp))
def iX (C : Ct) (t : T) (x : Env -> Hh -> Res R) : TI := fun σ H Rr => ∃ Z0 ρ h env, HR C Z0 ρ h H ∧ ER C H (Av ρ h Z0) ρ env σ ∧ match x env h with
 | .ok r h1 => (match itemsX h1 r with
  | some (rs, st) => ∀ ρ1 H1 J, Ex ρ h H ρ1 h1 H1 -> HR C Z0 ρ1 h1 H1 -> SrcR C t J rs st Z0 ρ1 h1 H1 -> Rr J H1
  | none => False)
 | _ => False
section
variable {X : Cx} {N : Nm} {cl : Tf.Cls} {call : Call} {fuel : Nat}
theorem si_X {t : T} {tg e : Expr} {ie : E} (p : PE X e (tEv (ct N X) (ev cl call ie))) : PI X tg e (iX (ct N X) t (ev cl call ie)) :=
 ⟨fun pins s σ H Rr I q => by
  obtain ⟨Z0, ρ, h, env, hr, er, q⟩ := q
  split at q
  case h_2 => exact q.elim
  rename_i r h1 e0
  cases r with
  | w w =>
   cases w with
   | lst us =>
    refine (pi_list p).run pins s σ H Rr I (tEv.bind hr er e0 fun H1 ρ1 v n1 rr => ?_)
    obtain ⟨a, vs, hx, e4, na, rv⟩ := rr
    exact ⟨a, hx, ⟨vs, .of e4⟩, q ρ1 H1 _ n1.ex n1.hr (Src.list e4 na rv).r⟩
   | tup us =>
    refine (pi_tup p).run pins s σ H Rr I (tEv.bind hr er e0 fun H1 ρ1 v n1 rr => ?_)
    obtain ⟨a, vs, hx, e4, rv⟩ := rr
    exact ⟨a, hx, ⟨vs, e4.t⟩, q ρ1 H1 _ n1.ex n1.hr (Src.tup e4 rv).r⟩
   | _ => exact q.elim
  | loc l =>
   cases ez : h1[l]? with
   | none => simp only [itemsX, ez] at q
   | some ob =>
    cases ob with
    | lst us =>
     simp only [itemsX, ez] at q
     refine (pi_list p).run pins s σ H Rr I (tEv.bind hr er e0 fun H1 ρ1 v n1 rr => ?_)
     obtain ⟨a, ea, hx⟩ := rr
     obtain ⟨vs, e4, rv⟩ := n1.hr.ob l _ a ez ea (by intro z; cases z)
     exact ⟨a, hx, ⟨vs, .of e4⟩, q ρ1 H1 _ n1.ex n1.hr (srcO_lst.r ea)⟩
    | tup us =>
     simp only [itemsX, ez] at q
     refine (pi_tup p).run pins s σ H Rr I (tEv.bind hr er e0 fun H1 ρ1 v n1 rr => ?_)
     obtain ⟨a, ea, hx⟩ := rr
     obtain ⟨vs, e4, rv⟩ := n1.hr.ob l _ a ez ea (by intro z; cases z)
     exact ⟨a, hx, ⟨vs, e4.t⟩, q ρ1 H1 _ n1.ex n1.hr (srcO_tup.r ea)⟩
    | _ => simp only [itemsX, ez] at q⟩
def clBR (cl : Cls) (call : Call) (cs : List E) (K : Env -> Hh -> Res (List R)) : Env -> Hh -> Res (List R) := fun env' h2 => match tests cl call cs env' h2 with
 | .ok true h3 => K env' h3
 | .ok false h3 => .ok [] h3
 | _ => .no
def AtR (C : Ct) (Z0 : Addr -> Prop) (D : Addr) (rs : List R) (ρ : List Addr) (h : Hh) (H : Hp) : Prop := ∃ acc, H D = some (.lst acc) ∧ RRs C H (Av ρ h (Zp Z0 D)) ρ rs acc
theorem AtR.ex {C : Ct} {Z0 : Addr -> Prop} {D : Addr} {rs : List R} {ρ ρ' : List Addr} {h h' : Hh} {H H' : Hp} (hr : HR C (Zp Z0 D) ρ h H) (x : Ex ρ h H ρ' h' H') : AtR C Z0 D rs ρ h H -> AtR C Z0 D rs ρ' h' H' :=
 fun ⟨acc, e, r⟩ => ⟨acc, (x.fr D _ e (hr.notLive (.inr rfl))).1, RRs.ex x r⟩
def RestR (C : Ct) (Z0 : Addr -> Prop) (D : Addr) (total : List R) (K : Env -> Hh -> Res (List R)) (tr : Sg -> Hp -> (Hp -> Prop) -> Prop) : Prop :=
 ∀ (σ : Sg) (ρ : List Addr) (h : Hh) (H : Hp) (env : Env) (done ys rest : List R) (h' : Hh) (Q : Hp -> Prop), HR C (Zp Z0 D) ρ h H -> AtR C Z0 D done ρ h H -> ER C H (Av ρ h (Zp Z0 D)) ρ env σ -> K env h = .ok ys h' -> done ++ ys ++ rest = total ->
  (∀ ρ' H', ExD D (Zp Z0 D) (Zp Z0 D) ρ h H ρ' h' H' -> HR C (Zp Z0 D) ρ' h' H' -> AtR C Z0 D (done ++ ys) ρ' h' H' -> Q H') -> tr σ H Q
theorem rest_Rr {C : Ct} {Z0 : Addr -> Prop} {D : Addr} {total : List R} {e : E} (hz : total.length <= sizeMax) : RestR C Z0 D total (fun env h => asR (ev cl call e env h)) (trL D (tEv C (ev cl call e))) := by
 intro σ ρ h H env done ys rest h' Q hr a er ee hx q
 obtain ⟨w, ew, rfl⟩ := asR_ok ee
 refine ⟨_, ρ, h, env, hr, er, ?_⟩
 rw [ew]
 intro ρ4 H4 yv ex4 hr4 ry
 obtain ⟨acc, hD4, rv4⟩ := AtR.ex hr ex4 a
 have hlen := rrs_len rv4
 refine ⟨acc, hD4, ?_, q ρ4 _ ((ex4.d (Z0 := Zp Z0 D) fun _ z => .inl z).trans (updZ_x hD4 noT_lst)) (hr4.updZ (.inr rfl) hD4 noT_lst) ⟨acc ++ [yv], upd_same, ?_⟩⟩
 ·have h5 : total.length = done.length + 1 + rest.length := by rw [<- hx]; simp only [List.length_append, List.length_singleton]
  have := sz_line hz
  omega
 ·exact RRs.upd hD4 noT_lst (.inr (.inr rfl)) (rrs_app rv4 ⟨yv, [], rfl, ry, rfl⟩)
theorem turnsR {C : Ct} {J : It} {Zb Z0 : Addr -> Prop} {D : Addr} {total ws xs done rest : List R} {K : Env -> Hh -> Res (List R)} {tr : Sg -> Hp -> (Hp -> Prop) -> Prop} {st st1 : List (Nat × O)} {ρ1 : List Addr} {h1 h4 : Hh} {H1 H0 : Hp} {t : T} {cs : List E} {ss vs : List Nat} {σ : Sg} {env : Env} {Qd : Hp -> Prop}
  (S : SrcR C t J ws st1 Zb ρ1 h1 H1) (hst : ∀ h, still h st = true -> still h st1 = true) (er : ER C H1 (Av ρ1 h1 Zb) ρ1 env σ) (x0 : ExD D Zb (Zp Z0 D) ρ1 h1 H1 ρ1 h1 H0) (hr0 : HR C (Zp Z0 D) ρ1 h1 H0) (a0 : AtR C Z0 D done ρ1 h1 H0)
  (k1 : ∀ i ∈ vs, i ∈ ss) (k2 : ∀ i ∈ slotsT t, i ∈ vs) (rk : RestR C Z0 D total K tr)
  (hl : lcLoopO t (Tf.wipe ss env) st (clBR cl call cs K) ws h1 = .ok xs h4) (hx : done ++ xs ++ rest = total)
  (q : ∀ ρ' H', ExD D Zb (Zp Z0 D) ρ1 h1 H1 ρ' h4 H' -> HR C (Zp Z0 D) ρ' h4 H' -> AtR C Z0 D (done ++ xs) ρ' h4 H' -> Qd H') :
  Turning J (gT C t) (tTs C (tests cl call cs)) tr vs σ H0 Qd := by
 let P : Nat -> Hp -> Prop := fun i H => ∃ ρ' h' dn ys, ExD D Zb (Zp Z0 D) ρ1 h1 H1 ρ' h' H ∧ HR C (Zp Z0 D) ρ' h' H ∧ AtR C Z0 D dn ρ' h' H ∧ lcLoopO t (Tf.wipe ss env) st (clBR cl call cs K) (ws.drop i) h' = .ok ys h4 ∧ dn ++ ys = done ++ xs
 refine ⟨fun i m H => m = ws.length - i ∧ i <= ws.length ∧ P i H, ⟨ws.length, by simp, Nat.zero_le _, ρ1, h1, done, xs, x0, hr0, a0, by simpa using hl, rfl⟩, ?_⟩
 rintro i m H ⟨rfl, hi, ρ', h', dn, ys, ex, hr', aD, hl, hy⟩
 by_cases hlt : i < ws.length
 ·have hdr : ws.drop i = ws[i] :: ws.drop (i + 1) := List.drop_eq_getElem_cons hlt
  rw [hdr] at hl
  unfold lcLoopO at hl
  split at hl
  case isFalse => cases hl
  rename_i hs
  obtain ⟨g1, g2⟩ := S.go (Zp Z0 D) ρ' h' H ex.z hr' (hst _ hs) i ws[i] (by simp [hlt])
  cases es : setT t ws[i] (Tf.wipe ss env) with
  | none => rw [es] at hl; cases hl
  | some env1 =>
   rw [es] at hl
   dsimp only at hl
   refine .inr ⟨g1, P (i + 1), fun H' p => ⟨ws.length - (i + 1), by omega, rfl, hlt, p⟩, fun x H' y => ?_⟩
   obtain ⟨y1, y2⟩ := g2 x H' y
   obtain ⟨ex2, hr2⟩ := yl_ex hr' y1
   have exA := ex.trans (ex2.d (Z0 := Zp Z0 D) fun _ z => .inl z)
   have er2 := (exA.z.er er).wipe (ss := ss) k1
   refine ⟨_, ρ', _, ws[i], env1, er2, y2, es, fun σ2 er3 sm => ⟨?_, ?_⟩⟩
   ·rw [(Sm.sub sm k2).wipe]
    exact Sm.wiped.wipe
   ·have a2 := AtR.ex hr' ex2 aD
    refine ⟨_, ρ', h', env1, hr2, er3, ?_⟩
    cases et : tests cl call cs env1 h' with
    | ex c v => simp only [clBR, et] at hl; cases hl
    | no => simp only [clBR, et] at hl; cases hl
    | ok b h3 =>
     intro ρ3 H3 ex3 hr3
     have a3 := AtR.ex hr2 ex3 a2
     have exB := exA.trans (ex3.d (Z0 := Zp Z0 D) fun _ z => .inl z)
     cases b with
     | false =>
      rw [if_neg (by decide)]
      simp only [clBR, et] at hl
      cases el : lcLoopO t (Tf.wipe ss env) st (clBR cl call cs K) (ws.drop (i + 1)) h3 with
      | ex c v => rw [el] at hl; cases hl
      | no => rw [el] at hl; cases hl
      | ok zs h5 =>
       rw [el] at hl
       injection hl with hl1 hl2
       subst hl2
       exact ⟨ρ3, h3, dn, zs, exB, hr3, a3, el, by rw [<- hy, <- hl1]; rfl⟩
     | true =>
      rw [if_pos rfl]
      simp only [clBR, et] at hl
      cases ee : K env1 h3 with
      | ex c v => rw [ee] at hl; cases hl
      | no => rw [ee] at hl; cases hl
      | ok us h5 =>
       rw [ee] at hl
       dsimp only at hl
       cases el : lcLoopO t (Tf.wipe ss env) st (clBR cl call cs K) (ws.drop (i + 1)) h5 with
       | ex c v => rw [el] at hl; cases hl
       | no => rw [el] at hl; cases hl
       | ok zs h6 =>
        rw [el] at hl
        injection hl with hl1 hl2
        subst hl2
        refine rk σ2 ρ3 h3 H3 env1 dn us (zs ++ rest) h5 _ hr3 a3 (er3.ex ex3) ee ?_ fun ρ4 H4 x4 hr4 a4 => ⟨ρ4, h5, dn ++ us, zs, exB.trans x4, hr4, a4, el, ?_⟩
        ·rw [<- hx, <- hy, <- hl1]; simp only [List.append_assoc]
        ·rw [<- hy, <- hl1, List.append_assoc]
 ·have ei : i = ws.length := by omega
  subst ei
  rw [List.drop_eq_nil_of_le (Nat.le_refl _)] at hl
  unfold lcLoopO at hl
  split at hl
  case isFalse => cases hl
  rename_i hs
  injection hl with hl1 hl2
  subst hl1 hl2
  rw [List.append_nil] at hy
  subst hy
  exact .inl ⟨S.stop (Zp Z0 D) ρ' h' H ex.z hr' (hst _ hs), q ρ' H ex hr' aD⟩
def inX (cl : Cls) (call : Call) (t1 : T) (it1 : E) (cs1 : List E) (st : List (Nat × O)) (K1 : Env -> Hh -> Res (List R)) : Env -> Hh -> Res (List R) := fun env' h3 => match ev cl call it1 env' h3 with
 | .ok r1 h4 => match itemsX h4 r1 with
  | some (rs1, st1) => lcLoopO t1 (Tf.wipe (slotsT t1) env') (st ++ st1) (clBR cl call cs1 K1) rs1 h4
  | none => .no
 | _ => .no
theorem rest_inX {C : Ct} {Z0 : Addr -> Prop} {D : Addr} {total : List R} {K1 : Env -> Hh -> Res (List R)} {tr : Sg -> Hp -> (Hp -> Prop) -> Prop} {st : List (Nat × O)} {t1 : T} {it1 : E} {cs1 : List E} {vs1 : List Nat}
  (k1 : ∀ i ∈ vs1, i ∈ slotsT t1) (k2 : ∀ i ∈ slotsT t1, i ∈ vs1) (rk : RestR C Z0 D total K1 tr) :
  RestR C Z0 D total (inX cl call t1 it1 cs1 st K1) (fun σ H Q => iX C t1 (ev cl call it1) σ H fun J1 H4 => Turning J1 (gT C t1) (tTs C (tests cl call cs1)) tr vs1 σ H4 Q) := by
 intro σ ρ h H env done ys rest h' Q hr a er e hx q
 unfold inX at e
 refine ⟨Zp Z0 D, ρ, h, env, hr, er, ?_⟩
 cases e1 : ev cl call it1 env h with
 | ex c v => rw [e1] at e; cases e
 | no => rw [e1] at e; cases e
 | ok rs h1 =>
  rw [e1] at e
  dsimp only at e ⊢
  cases e2 : itemsX h1 rs with
  | none => rw [e2] at e; cases e
  | some ww =>
   rw [e2] at e
   intro ρ1 H1 J ex hr1 S
   have x1 := ex.d (D := D) (Z0 := Zp Z0 D) (Z1 := Zp Z0 D) fun _ z => .inl z
   exact turnsR S (fun h q => (still_app q).2) (er.ex ex) .refl hr1 (AtR.ex hr ex a) k1 k2 rk e hx fun ρ' H' x hr' a' => q ρ' H' (x1.trans x) hr' a'
theorem lcX_of {t : T} {it e : E} {cs : List E} {vs : List Nat} {C : Ct} (k1 : ∀ i ∈ vs, i ∈ slotsT t) (k2 : ∀ i ∈ slotsT t, i ∈ vs) {σ : Sg} {H : Hp} {Q : VK} (q : tEv C (ev cl call (.lcX t it cs e)) σ H Q) :
  tLc (iX C t (ev cl call it)) (gT C t) (tTs C (tests cl call cs)) (tEv C (ev cl call e)) vs σ H Q := by
 obtain ⟨Z0, ρ, h, env, hr, er, q⟩ := q
 refine ⟨Z0, ρ, h, env, hr, er, ?_⟩
 unfold ev at q
 cases e1 : ev cl call it env h with
 | ex c v => rw [e1] at q; exact q.elim
 | no => rw [e1] at q; exact q.elim
 | ok r h1 =>
  rw [e1] at q
  dsimp only at q ⊢
  cases e2 : itemsX h1 r with
  | none => rw [e2] at q; exact q.elim
  | some ww =>
   obtain ⟨rs, st⟩ := ww
   rw [e2] at q
   have q : EQ C Z0 ρ h H Q (match lcLoopO t (Tf.wipe (slotsT t) env) st (clBR cl call cs (fun env h => asR (ev cl call e env h))) rs h1 with
    | .ok xs h4 => if xs.length <= sizeMax then .ok (.loc h4.length) (h4 ++ [.lst xs]) else .no
    | _ => .no) := q
   cases e3 : lcLoopO t (Tf.wipe (slotsT t) env) st (clBR cl call cs (fun env h => asR (ev cl call e env h))) rs h1 with
   | ex c v => rw [e3] at q; exact q.elim
   | no => rw [e3] at q; exact q.elim
   | ok xs h4 =>
    rw [e3] at q
    dsimp only at q
    split at q
    case isFalse => exact q.elim
    rename_i hz
    intro ρ1 H1 J ex hr1 S D hD
    have n : ¬ Z0 D := fun z => by obtain ⟨o, q⟩ := hr1.zd D z; rw [hD] at q; cases q
    exact turnsR (C := C) (Zb := Z0) (Z0 := Z0) (D := D) (total := xs) (done := []) (rest := []) S (fun _ z => z) (er.ex ex) ((Ex.fresh hr1 hD).d (zp_fresh hD)) (hr1.freshP hD) ⟨[], upd_same, rfl⟩ k1 k2
     (rest_Rr hz) e3 (by simp) fun ρ' H' x hr' ⟨acc, hD', rv⟩ =>
     q (ρ' ++ [D]) H' _ ((ex.trans (x.ex hD)).adopt hr' (ex.back hr1 D hD)) (hr'.adopt n ⟨acc, hD', rv⟩ (RRs.app hr'.len)) ⟨D, by rw [<- hr'.len]; simp, rfl⟩
theorem lc2X_of {t t1 : T} {k : IK} {its cs cs1 : List E} {it1 e : E} {vs vs1 : List Nat} {C : Ct} (k1 : ∀ i ∈ vs, i ∈ slotsT t ++ slotsT t1) (k2 : ∀ i ∈ slotsT t, i ∈ vs) (k3 : ∀ i ∈ vs1, i ∈ slotsT t1) (k4 : ∀ i ∈ slotsT t1, i ∈ vs1)
  {σ : Sg} {H : Hp} {Q : VK} (q : tEv C (ev cl call (.lc2X t k its cs t1 it1 cs1 e)) σ H Q) :
  tLc2 (iSr C t k (evs cl call its)) (gT C t) (tTs C (tests cl call cs)) (iX C t1 (ev cl call it1)) (gT C t1) (tTs C (tests cl call cs1)) (tEv C (ev cl call e)) vs vs1 σ H Q := by
 obtain ⟨Z0, ρ, h, env, hr, er, q⟩ := q
 refine ⟨Z0, ρ, h, env, hr, er, ?_⟩
 unfold ev at q
 cases e1 : evs cl call its env h with
 | ex c v => rw [e1] at q; exact q.elim
 | no => rw [e1] at q; exact q.elim
 | ok rs h1 =>
  rw [e1] at q
  dsimp only at q ⊢
  cases e2 : walk k rs h1 with
  | none => rw [e2] at q; exact q.elim
  | some ww =>
   obtain ⟨ws, st⟩ := ww
   rw [e2] at q
   have q : EQ C Z0 ρ h H Q (match lcLoopO t (Tf.wipe (slotsT t ++ slotsT t1) env) st (clBR cl call cs (inX cl call t1 it1 cs1 st (fun env h => asR (ev cl call e env h)))) (ws.map R.w) h1 with
    | .ok xs h4 => if xs.length <= sizeMax then .ok (.loc h4.length) (h4 ++ [.lst xs]) else .no
    | _ => .no) := q
   cases e3 : lcLoopO t (Tf.wipe (slotsT t ++ slotsT t1) env) st (clBR cl call cs (inX cl call t1 it1 cs1 st (fun env h => asR (ev cl call e env h)))) (ws.map R.w) h1 with
   | ex c v => rw [e3] at q; exact q.elim
   | no => rw [e3] at q; exact q.elim
   | ok xs h4 =>
    rw [e3] at q
    dsimp only at q
    split at q
    case isFalse => exact q.elim
    rename_i hz
    intro ρ1 H1 J ex hr1 S D hD
    have n : ¬ Z0 D := fun z => by obtain ⟨o, q⟩ := hr1.zd D z; rw [hD] at q; cases q
    exact turnsR (C := C) (Zb := Z0) (Z0 := Z0) (D := D) (total := xs) (done := []) (rest := []) S.r (fun _ z => z) (er.ex ex) ((Ex.fresh hr1 hD).d (zp_fresh hD)) (hr1.freshP hD) ⟨[], upd_same, rfl⟩ k1 k2
     (rest_inX k3 k4 (rest_Rr hz)) e3 (by simp) fun ρ' H' x hr' ⟨acc, hD', rv⟩ =>
     q (ρ' ++ [D]) H' _ ((ex.trans (x.ex hD)).adopt hr' (ex.back hr1 D hD)) (hr'.adopt n ⟨acc, hD', rv⟩ (RRs.app hr'.len)) ⟨D, by rw [<- hr'.len]; simp, rfl⟩
end
end Tf
namespace Tf
namespace P
open PySem L2 PyProof.Rows
section
variable {X : Cx} {N : Nm} {cl : Tf.Cls} {call : Call} {fuel : Nat} {elt tg iter tg1 iter1 o : Expr} {ifs ifs1 : List Expr} {scope : Scope} {pos apos cpos : Pos} {t t1 : T} {k : IK} {its cs cs1 : List E} {it it1 ie io : E}
theorem lcX (own : List (Str × Nat)) (hN : X.N.Nodup) (hi : PE X iter (tEv (ct N X) (ev cl call it)))
  (hg : Blk X scope fun Y => PG Y tg (gT (ct N X) t)) (ht : Blk X scope fun Y => PTs Y ifs (tTs (ct N X) (tests cl call cs))) (he : Blk X scope fun Y => PE Y elt (tEv (ct N X) (ev cl call ie)))
  (ok : blkC X.N X.env.scope scope own = true := by kernel_rfl) (k1 : ∀ i ∈ own.map (·.2), i ∈ slotsT t := by decide) (k2 : ∀ i ∈ slotsT t, i ∈ own.map (·.2) := by decide) (hc : X.calm = true := by rfl) (hs : ∀ x, foldedSetIterable iter X.env x = pure x := by intro _; rfl) :
  PE X (.ListComp elt [⟨tg, iter, ifs, 0⟩] scope pos) (tEv (ct N X) (ev cl call (.lcX t it cs ie))) :=
 PE.imp (pe_lc hc hN (si_X hi) (blkOk_by ok) hg ht he hs) fun σ H Q q => lcX_of k1 k2 q
theorem lc2X (own : List (Str × Nat)) (vs1 : List Nat) (hN : X.N.Nodup) (hi : PI X tg iter (iSr (ct N X) t k (evs cl call its)))
  (hg : Blk X scope fun Y => PG Y tg (gT (ct N X) t)) (ht : Blk X scope fun Y => PTs Y ifs (tTs (ct N X) (tests cl call cs)))
  (hi1 : Blk X scope fun Y => PE Y iter1 (tEv (ct N X) (ev cl call it1))) (hg1 : Blk X scope fun Y => PG Y tg1 (gT (ct N X) t1)) (ht1 : Blk X scope fun Y => PTs Y ifs1 (tTs (ct N X) (tests cl call cs1)))
  (he : Blk X scope fun Y => PE Y elt (tEv (ct N X) (ev cl call ie)))
  (ok : blkC X.N X.env.scope scope own = true := by kernel_rfl) (hv : ∀ i ∈ vs1, i ∈ own.map (·.2) := by decide) (k1 : ∀ i ∈ own.map (·.2), i ∈ slotsT t ++ slotsT t1 := by decide) (k2 : ∀ i ∈ slotsT t, i ∈ own.map (·.2) := by decide)
  (k3 : ∀ i ∈ vs1, i ∈ slotsT t1 := by decide) (k4 : ∀ i ∈ slotsT t1, i ∈ vs1 := by decide) (hc : X.calm = true := by rfl) (hs : ∀ x, foldedSetIterable iter X.env x = pure x := by intro _; rfl) (hs1 : ∀ env x, foldedSetIterable iter1 env x = pure x := by intro _ _; rfl) :
  PE X (.ListComp elt [⟨tg, iter, ifs, 0⟩, ⟨tg1, iter1, ifs1, 0⟩] scope pos) (tEv (ct N X) (ev cl call (.lc2X t k its cs t1 it1 cs1 ie))) :=
 PE.imp (pe_lc2 hc hN hi (blkOk_by ok) hv hg ht (fun s H C cl' fp => si_X (hi1 s H C cl' fp)) hg1 ht1 he hs hs1) fun σ H Q q => lc2X_of k1 k2 k3 k4 q
end
end P
end Tf
namespace Tf
open PySem PySem.W PySem.Calls PyProof.Rows PySem.HandSPX
section
variable {prog : Program} {w : World} {A : Around} {E : Value -> Shared -> Prop} {R : Result -> Shared -> Prop} {h : Heap} {g : Array GenState} {d : Drawn} {t : Nat} {os : OsState}
variable {nm q : Str} {C N : Addr} {bs bm bmB : List Value} {hdct : Bool} {sn : List Str} {sub : List Value} {ab : Bool} {col : Option Bool} {dd : Option Addr} {k0 k1 k2 k3 k5 : Option Value} {B newId initId : String} {rest : List Value} {kw : List (Str × Value)}
theorem xn_check (F : ExcBaseFacts B newId initId bmB) (hT : ∀ X : String, bm.contains (.type X) = bmB.contains (.type X)) {Q : Unit -> Shared -> Prop}
  (hC : h.get? C = some (excClassObj nm q C N bs bm hdct sn sub ab col dd k0 k1 k2 k3 k5 newId)) (hq : Q () ⟨h, g, d, t, os⟩) : wpAny (model prog w) A (checkBuiltinCall newId ⟨.ref C :: rest, kw⟩) Q E ⟨h, g, d, t, os⟩ := by
 have c1 : (Value.ref C :: bm).contains (.type B) = true := by rw [List.contains_cons, hT, F.hasB, Bool.or_true]
 have hstar := F.noStar
 simp only [checkBuiltinCall, F.newKind, F.newSplit, F.newRow]
 repeat (first | refine wpAny_loadPart_at hC ?_ | (refine wpAny_isSubtype_exc hC ?_; rw [c1]) | refine wpAny_staticBase_exc hC ?_ | refine wpAny_madeBy_exc hC ?_ | simp only [bne_self_eq_false, Bool.false_eq_true, if_false] | wp_step)
 all_goals exact hq
theorem xn_new (F : ExcBaseFacts B newId initId bmB) (hT : ∀ X : String, bm.contains (.type X) = bmB.contains (.type X))
  (hC : h.get? C = some (excClassObj nm q C N bs bm hdct sn sub ab col dd k0 k1 k2 k3 k5 newId))
  (hq : R (.ok (.ret (.ref (h.objs.size + 1)))) ⟨(h.push (kdv_tup rest)).push (excO C h.objs.size), g, d, t, os⟩) (hz : rest.length <= sizeLine) :
  codeAny (model prog w) A (.builtin newId ⟨.ref C :: rest, kw⟩) R ⟨h, g, d, t, os⟩ := by
 have e0 := F.ends
 have c1 : (Value.ref C :: bm).contains (.type B) = true := by rw [List.contains_cons, hT, F.hasB, Bool.or_true]
 have c2 : (Value.ref C :: bm).contains (.type "AttributeError") = false := by rw [List.contains_cons, hT, F.noAttr]; rfl
 have c3 : (Value.ref C :: bm).contains (.type "NameError") = false := by rw [List.contains_cons, hT, F.noName]; rfl
 refine codeAny_builtinAt F.entry ?_
 unfold Builtin.«BaseException.__new__»
 refine PySem.wpAt_bind ?_
 show PySem.wpAt _ _ _ (stack >>= _) _ _ _
 refine PySem.wpAt_bind (PySem.wpAt_stack fun p below => PySem.wpAt_of_wpAny ?_)
 wp_walk
 refine PySem.wpAt_of_wpAny ?_
 rw [F.owner]
 repeat (first | with_reducible refine wpAny_madeHere_exc F.canon hC ?_ | with_reducible refine wpAny_loadPart_at hC ?_ | (with_reducible refine wpAny_isSubtype_exc hC ?_; first | rw [c1] | rw [c2] | rw [c3]) | wp_step)
 show R _ _
 rw [Heap.size_push]
 exact hq
theorem xn_typecall {M : Model} {Q : Unit -> Shared -> Prop} (hC : h.get? C = some (excClassObj nm q C N bs bm hdct sn sub ab col dd k0 k1 k2 k3 k5 newId))
  (hq : Q () ⟨h, g, d, t, os⟩) : wpAny M A (checkBuiltinCall "type.__call__" ⟨.ref C :: rest, kw⟩) Q E ⟨h, g, d, t, os⟩ := by
 have f3 := tc_sub
 have hT : (⟨h, g, d, t, os⟩ : Shared).TypeIs (.ref C) "type" := ⟨_, hC, rfl⟩
 simp only [checkBuiltinCall, tc_kind, tc_split]
 repeat (any_goals (first | assumption | with_reducible refine wpAny_loadPart_at hC ?_ | with_reducible refine wpAny_onRaise ?_ | with_reducible refine wpAny_map ?_ | wp_step))
theorem xn_type (F : ExcBaseFacts B newId initId bmB) (hT : ∀ X : String, bm.contains (.type X) = bmB.contains (.type X)) {fI : Addr} {Q : Fin -> Shared -> Prop}
  (hC : h.get? C = some (excClassObj nm q C N bs bm hdct sn sub ab col dd k0 k1 k2 k3 k5 newId))
  (hi : Looks (model prog w) h (typeLookup (.ref C) "__init__") (some (.ref fI))) (hb : ∀ self, Looks (model prog w) h (bindSpecial (.ref fI) self) (.ref fI, [self])) (hz : rest.length <= sizeLine)
  (hq : codeAny (model prog w) A (.call (.ref fI) ⟨.ref (h.objs.size + 1) :: rest, kw⟩)
   (fun r s' => match r with | .ok (.ret v) => v = .none ∧ Q (.done (.ret (.ref (h.objs.size + 1)))) s' | .ok _ => False | .error e => E e s')
   ⟨(h.push (kdv_tup rest)).push (excO C h.objs.size), g, d, t, os⟩) :
  wpAny (model prog w) A (Builtin.«type.__call__» ⟨.ref C :: rest, kw⟩) Q E ⟨h, g, d, t, os⟩ := by
 repeat (first | with_reducible refine wpAny_loadPart_at hC ?_ | with_reducible refine wpAny_madeBy_exc hC ?_ | wp_step)
 refine codeAny_call_builtin_code (Code.quiet_builtin _ F.quiet) (xn_check F hT hC ?_)
 refine xn_new F hT hC ?_ hz
 show wpAny _ _ _ _ _ _
 have k : ∀ b o, h.get? b = some o -> ((h.push (kdv_tup rest)).push (excO C h.objs.size)).get? b = some o := fun b o e => Heap.get?_push_of_some _ (Heap.get?_push_of_some _ e)
 have hC1 := k _ _ hC
 have hg : ((h.push (kdv_tup rest)).push (excO C h.objs.size)).get? (h.objs.size + 1) = some (excO C h.objs.size) := by heap_get
 have hcC : (Value.ref C :: bm).contains (.ref C) = true := by simp
 have i1 := hi.keeps k
 have b1 := (hb (.ref (h.objs.size + 1))).keeps k
 unfold isInstance
 repeat (first | with_reducible refine wpAny_loadPart_at hg ?_ | (with_reducible refine wpAny_isSubtype_exc hC1 ?_; rw [hcC]) | wp_step)
 show wpAny _ _ (typeLookup (.ref C) _) _ _ _
 refine i1.at ?_
 refine wpAny_holding (wpAny_bind (b1.at ?_))
 refine wpAny_bind (wpAny_call (codeAny_mono hq fun r s' z => ?_))
 rcases r with e | (v | _ | _ | _) <;> first | exact z | exact z.elim | skip
 obtain ⟨rfl, z⟩ := z
 first
  | exact wpAny_pure (wpAny_pure z)
  | (wp_walk; exact z)
theorem xn_call (F : ExcBaseFacts B newId initId bmB) (hT : ∀ X : String, bm.contains (.type X) = bmB.contains (.type X)) {fI : Addr}
  (hC : h.get? C = some (excClassObj nm q C N bs bm hdct sn sub ab col dd k0 k1 k2 k3 k5 newId))
  (hi : Looks (model prog w) h (typeLookup (.ref C) "__init__") (some (.ref fI))) (hb : ∀ self, Looks (model prog w) h (bindSpecial (.ref fI) self) (.ref fI, [self])) (hz : rest.length <= sizeLine)
  (hq : codeAny (model prog w) (A.under (.builtin "type.__call__" ⟨.ref C :: rest, kw⟩)) (.call (.ref fI) ⟨.ref (h.objs.size + 1) :: rest, kw⟩) (InitBack (h.objs.size + 1) R)
   ⟨(h.push (kdv_tup rest)).push (excO C h.objs.size), g, d, t, os⟩) :
  codeAny (model prog w) A (.call (.ref C) ⟨rest, kw⟩) R ⟨h, g, d, t, os⟩ := by
 have f1 := tc_lookup
 have f2 := tc_bind (.ref C)
 have hTy : (⟨h, g, d, t, os⟩ : Shared).TypeIs (.ref C) "type" := ⟨_, hC, rfl⟩
 refine codeAny_of_tree ?_
 show wpAny _ _ (callAny (.ref C) _) _ _ _
 repeat (any_goals (first | assumption | with_reducible refine wpAny_loadPart_at hC ?_ | wp_step))
 refine ⟨rfl, ?_⟩
 refine codeAny_call_builtin_at (Code.quiet_builtin _ (by decide +kernel)) entry_typeCall (xn_typecall hC (xn_type F hT hC hi hb hz ?_))
 refine codeAny_mono hq fun r s' z => ?_
 rcases r with e | (v | _ | _ | _) <;> exact z
end
end Tf
set_option maxHeartbeats 1000000
namespace Tf
open PySem PySem.W PySem.Calls PyProof.Rows PySem.HandSPX
abbrev xiParams (a1 a2 a3 : Pos) : Arguments := { posonlyargs := [], args := [{ arg := "self", annotation := none, pos := a1 }, { arg := "value", annotation := none, pos := a2 }], vararg := none, kwonlyargs := [], kw_defaults := [], kwarg := none, defaults := [.Constant .none 0 a3] }
abbrev xiBody (p0 p1 p2 p3 p4 p5 p6 p7 p8 p9 : Pos) : List Stmt := [.Expr (.Call (.Attribute (.Call (.Name "super" p0) [] [] p1) "__init__" p2) [.Name "value" p3] [] p4) p5, .Assign [.Attribute (.Name "self" p6) "value" p7] (.Name "value" p8) p9]
abbrev xiScope : Scope := { kind := .function, names := [(Str.ofString "self", .local), (Str.ofString "value", .local), (Str.ofString "__class__", .free), (Str.ofString "super", .globalImplicit)], isGenerator := false, isCoroutine := false, more := [] }
abbrev xiFn (qual : Str) (a1 a2 a3 p0 p1 p2 p3 p4 p5 p6 p7 p8 p9 : Pos) (dV kV doc pm : Value) (an : Option Addr) (cda : Addr) (ct : Value) (cc : Addr) : FuncData := ksFn "__init__" qual (xiParams a1 a2 a3) (xiBody p0 p1 p2 p3 p4 p5 p6 p7 p8 p9) xiScope dV kV doc pm an (.ref cda) ct cc
theorem xi_he {p0 p1 p2 p3 p4 : Pos} {env : PySem.Env} (hl : (p2.endLine == p4.line) = true) : eval (.Call (.Attribute (.Call (.Name "super" p0) [] [] p1) "__init__" p2) [.Name "value" p3] [] p4) env = (do
   let ov <- attributeBase (.Call (.Name "super" p0) [] [] p1) "__init__" env (eval (.Call (.Name "super" p0) [] [] p1) env)
   standAt p2.atName
   let (f, first) <- holding [ov] (getMethod ov "__init__" (do return (<- importBound (.Call (.Name "super" p0) [] [] p1) env).getD true))
   callWith p4 f first (backTo p4 (starEach [.Name "value" p3] env)) []) := by
 have e : methodCallPos true (.Call (.Name "super" p0) [] [] p1) env p2 p4 = pure p4 := by
  unfold methodCallPos
  rw [hl]; rfl
 show (do
  let ov <- attributeBase (.Call (.Name "super" p0) [] [] p1) "__init__" env (eval (.Call (.Name "super" p0) [] [] p1) env)
  standAt p2.atName
  let (f, first) <- holding [ov] (getMethod ov "__init__" (do return (<- importBound (.Call (.Name "super" p0) [] [] p1) env).getD true))
  let callPos <- methodCallPos true (.Call (.Name "super" p0) [] [] p1) env p2 p4
  callWith callPos f first (backTo p4 (starEach [.Name "value" p3] env)) []) = _
 rw [e]
 rfl
section
variable {prog : Program} {w : World} {A : Around} {E : Value -> Shared -> Prop} {K : Frag} {mg mb : Str -> Option Value}
structure XiOk (prog : Program) (K : Frag) (C fI cda cc : Addr) (qual : Str) (fd : FuncData) : Prop where
 fn : ∃ a1 a2 a3 p0 p1 p2 p3 p4 p5 p6 p7 p8 p9 dV kV doc pm an ct oc od osl, fd = xiFn qual a1 a2 a3 p0 p1 p2 p3 p4 p5 p6 p7 p8 p9 dV kV doc pm an cda ct cc ∧ K.lookup fI = some ⟨oc, od, .func fd, osl⟩ ∧ (p2.endLine == p4.line) = true
 dfl : ∃ T o n, fd.defaults = .ref T ∧ K.lookup T = some o ∧ o.data = .seq #[.none] n
 code : codeIn K (.ref cda) qual = true
 file : ∃ ccl cdd vs ccs file tf, K.lookup cda = some ⟨ccl, cdd, .fields vs, ccs⟩ ∧ vs[2]? = some (.str file tf) ∧ ((prog.main.file : Str) == file) = true
 cell : ∃ cl cld csl, K.lookup cc = some ⟨cl, cld, .cell (some (.ref C)), csl⟩
 sup : ks_superIn K C C "__init__" = some (some (.builtin "ValueError.__init__"))
 sub : subIn K (.ref C) (.type "ValueError") = some true
 mro : mroIn K C (.ref C) = some true
 any : nsIn K cStatics "thirdparty.any" = some none
 val : findIn K (.ref C) "value" = some none
theorem xi_body {s : Shared} {C fI cda cc L x : Addr} {qual : Str} {fd : FuncData} {p0 p1 p2 p3 p4 p5 p6 p7 p8 p9 : Pos} {m : Str -> Option Value} {u : Value} {t0 : Addr} {Q : Flow -> Shared -> Prop} (X : K.In s.heap) (T : L2.OexC K C) (O : XiOk prog K C fI cda cc qual fd)
  (ns : s.heap.Ns L m) (m1 : m "self" = some (.ref x)) (m2 : m "value" = some u) (hx : s.heap.get? x = some (excO C t0))
  (hg : s.heap.Ns mainGlobals mg) (hsup : mg "super" = none) (hb : s.heap.Ns builtinsNs mb) (hbs : mb "super" = some (.type "super")) (htop : (prog.main.scope.names.lookup ("super" : Str)).isSome = false)
  (hpl : (p2.endLine == p4.line) = true) (hxK : ∀ o, K.lookup x ≠ some o)
  (hq : ∀ h' tk' dx t1, (∀ b o, b ≠ x -> s.heap.get? b = some o -> h'.get? b = some o) -> s.heap.objs.size <= dx -> dx ≠ x -> h'.get? x = some { cls := .ref C, dict := some dx, data := .fields #[.ref t1, .none, .none, .none, .bool false, .none] } ->
   h'.Ns1 dx (fun y => if y = "value" then some u else none) -> Q .next { s with heap := h', toks := tk' }) :
  _root_.PySem.wpAt (model prog w) A (.func (xiBody p0 p1 p2 p3 p4 p5 p6 p7 p8 p9) (ksEnv qual xiScope L fI (.ref cda) cc)) (PySem.execs (xiBody p0 p1 p2 p3 p4 p5 p6 p7 p8 p9) (ksEnv qual xiScope L fI (.ref cda) cc)) Q E s := by
 obtain ⟨a1, a2, a3, q0, q1, q2, q3, q4, q5, q6, q7, q8, q9, dV, kV, doc, pm, an, ct, oc, od, osl, rfl, lf, _⟩ := O.fn
 obtain ⟨ccl, cdd, vs, ccs, file, tf, lcda, hvs, hfile⟩ := O.file
 obtain ⟨cl, cld, csl, lcc⟩ := O.cell
 obtain ⟨nm, q, N, bs, bm, sn, sub, ab, col, dd, k0, k1, k2, k3, k5, hC, hbm⟩ := T.cls
 have hcl : clsIn K C = some { name := nm, bases := bs, mro := .ref C :: bm, ns := N, qualname := q, hasDict := true, slotNames := sn, subclasses := sub, abstract := ab, collection := col, hasDel := false } := by unfold clsIn; rw [hC] <;> rfl
 obtain ⟨hh, g, d, t, os⟩ := s
 have ne : x ≠ C := ks_ne (ox := excO C t0) (odx := none) X ⟨hx, rfl, rfl, trivial⟩ hcl
 have I0 : InstAt hh x (excO C t0) C none := ⟨hx, rfl, rfl, trivial⟩
 refine ks_wpAt_execs_cons ?_
 refine ks_wpAt_Expr_any ?_
 refine ks_wpAt_MethodCall ?_ (xi_he hpl)
 refine ks_wpAt_super_base (env := ksEnv qual xiScope L fI (.ref cda) cc) (by rfl) (by rfl) (by decide) rfl (X _ _ lf) rfl rfl rfl (X _ _ lcda) rfl hvs hfile htop ?_
 refine ks_loadName_global rfl (by rfl) (loadGlobal_builtin (env := ksEnv qual xiScope L fI (.ref cda) cc) hg hsup hb hbs ⟨rfl, ?_⟩)
 refine wpAny_loadName_free rfl (by rfl) rfl ⟨_, X _ _ lcc, rfl⟩ ?_
 refine wpAny_loadName_local rfl (by rfl) ns m1 ?_
 refine ks_wpAny_isType_cls (X _ _ hC) rfl ⟨rfl, ?_⟩
 refine ks_wpAny_call_super (X _ _ hC) rfl hx rfl (fun c e => by cases e) (looks_mroIn X O.mro) (fun h1 e1 s1 => ?_)
 have X1 : K.In h1 := X.keeps s1
 have sz1 : hh.objs.size < h1.objs.size := Heap.lt_size e1
 refine kxs_getMethod kxs_ValueError e1 (looks_opaque X1 O.any) (l₀ := .ref C :: bm) (fun A Q E s k q => wpAny_bind ((looks_clsIn X1 hcl) A _ E s k (wpAny_pure q))) rfl X1 (by have z := O.sup; unfold ks_superIn at z; rw [hcl] at z; exact z) ?_ ne (by decide) ?_
 ·exact (InstAt.type (M := model prog w) (h := h1) (ox := excO C t0) (od := none) ⟨s1 _ _ hx, rfl, rfl, trivial⟩).andThen (looks_subIn X1 O.sub)
 have s2 : ∀ y o, h1.get? y = some o -> (h1.push (kxs_mw "ValueError.__init__" x)).get? y = some o := fun y o e => Heap.get?_push_of_some _ e
 have e2 : (h1.push (kxs_mw "ValueError.__init__" x)).get? h1.objs.size = some (kxs_mw "ValueError.__init__" x) := Heap.get?_push_at rfl rfl
 have X2 : K.In (h1.push (kxs_mw "ValueError.__init__" x)) := X1.keeps s2
 have hx2 := s2 _ _ (s1 _ _ hx)
 have ns2 : (h1.push (kxs_mw "ValueError.__init__" x)).Ns L m := by
  obtain ⟨o, es, ep, ho, r⟩ := ns
  exact ⟨o, es, ep, s2 _ _ (s1 _ _ ho), r⟩
 generalize hh2 : h1.push (kxs_mw "ValueError.__init__" x) = h2 at s2 e2 X2 hx2 ns2 ⊢
 have hs : starEach [.Name "value" p3] (ksEnv qual xiScope L fI (.ref cda) cc) = (false, eval (.Name "value" p3) (ksEnv qual xiScope L fI (.ref cda) cc)) :: starEach [] (ksEnv qual xiScope L fI (.ref cda) cc) := rfl
 rw [hs]
 refine kxs_callWith (i := "ValueError.__init__") (x := x) (by rfl) (evalArgs_plain ?_)
 refine Calls.spliced_cons (wpAny_Name (wpAny_loadName_local rfl (by rfl) ns2 m2 ?_) (by decide))
 refine Calls.spliced_nil ⟨e2, ?_⟩
 refine wpAny_call (codeAny_of_tree ?_)
 show wpAny _ A.in1 (callAny (.ref h1.objs.size) ⟨[u], []⟩) _ _ _
 simp only [callAny]
 refine wpAny_bind (wpAny_load e2 ?_)
 simp only [kxs_mw, show (Value.type "method-wrapper" == Value.type "method" || Value.type "method-wrapper" == Value.type "builtin_function_or_method" || Value.type "method-wrapper" == Value.type "method-wrapper") = true by decide, if_true]
 refine KFB.if_so (by decide) ?_
 refine wpAny_bind (check_bound_init F.excBase_ValueError.toExcCallFacts (X2 _ _ hC) hx2 rfl ?_)
 refine wpAny_bind (wpAny_pure (wpAny_pure ?_))
 refine ⟨plainId_quiet F.excBase_ValueError.init.plain _, codeAny_builtin F.excBase_ValueError.initEntry ?_⟩
 refine exc_init_tree (cls := .ref C) (t0 := t0) (dv := none) (c2 := .none) (c3 := .none) (b4 := .bool false) hx2 (by rw [sizeLine_eq]; show 1 <= _; omega) fun h3 s3 e3 e4 => ?_
 have X3 : K.In h3 := fun b o e => s3 b o (fun z => hxK o (by rw [<- z]; exact e)) (X2 _ _ e)
 have ns3 : h3.Ns L m := by
  obtain ⟨o, es, ep, ho, hd, r⟩ := ns2
  refine ⟨o, es, ep, s3 _ _ (fun z => ?_) ho, hd, r⟩
  rw [z, hx2] at ho
  cases ho
  cases hd
 show PySem.wpAt (model prog w) A _ (PySem.execs [Stmt.Assign [(Expr.Name (Str.ofString "self") p6).Attribute (Str.ofString "value") p7] (Expr.Name (Str.ofString "value") p8) p9] (ksEnv qual xiScope L fI (.ref cda) cc)) Q E ⟨h3, g, d, t + 1, os⟩
 refine ks_wpAt_execs_cons (ks_wpAt_Assign_Attr (PySem.wpAt_of_wpAny ?_))
 refine wpAny_Name (wpAny_loadName_local rfl (by rfl) ns3 m2 ?_) (by decide)
 refine wpAny_Name (wpAny_loadName_local rfl (by rfl) ns3 m1 ?_) (by decide)
 refine set_plain X3 (ox := excO C h2.objs.size) (od := none) ⟨e3, rfl, rfl, trivial⟩ T.sa ?_
 refine exc_osa X3 e3 hcl (show refsVE (.ref C :: bm) = true from hbm) rfl O.val (fun h' tk' dx k dn dne hx' hn => ?_)
 show PySem.wpAt _ _ _ (PySem.execs [] _) _ _ _
 refine PySem.wpAt_of_wpAny (wpAny_pure ?_)
 have l12 : h1.objs.size <= h2.objs.size := by rw [<- hh2, Heap.size_push]; exact Nat.le_succ _
 refine hq h' tk' dx _ (fun b o nb e => k b o nb (s3 b o nb (s2 _ _ (s1 _ _ e)))) ?_ dne hx' hn
 have l23 : h2.objs.size < h3.objs.size := Heap.lt_size e4
 have dn : h3.objs.size <= dx := dn
 show hh.objs.size <= dx
 omega
end
end Tf
set_option maxHeartbeats 1000000
namespace Tf
open PySem L2 PyProof.Rows
def spX (C : Addr) : Sp := fun vs G Q _ => ∃ a y, vs = [.ref a, y] ∧ G a = some (exo a C none) ∧ ∀ dx, G dx = none -> dx ≠ a -> Q .non (upd (upd G dx (exd dx [("value", y)])) a (exo a C (some dx)))
section
variable {P : Program} {w : World} {K : PySem.W.Frag} {mg : Str -> Option Value} {base : Heap} {CX : CXT} {C fI cda cc : Addr} {qual : Str} {fd : FuncData}
theorem un_exc {fs : List Addr} {G : Hp} {hp h' : Heap} {a dx : Addr} {fs' : List (Str × V)} (e : G a = some (exo a C none)) (hnd : G dx = none) (dn : hp.objs.size <= dx) (k : ∀ b o, b ≠ a -> hp.get? b = some o -> h'.get? b = some o) (hx : ∃ o, h'.get? a = some o) :
  Un fs [] G (upd (upd G dx (exd dx fs')) a (exo a C (some dx))) hp h' := by
 have nd : ∀ {b : Addr} {o : Obj}, hp.get? b = some o -> b ≠ dx := fun {b o} q => Nat.ne_of_lt (Nat.lt_of_lt_of_le (Heap.lt_size q) dn)
 have na : ∀ {b : Addr}, G b = none -> b ≠ a := fun {b} n z => by rw [z, e] at n; cases n
 exact {
  keep := fun b o q n _ _ => k b o (na n) q
  slot := fun b o q n _ _ => ⟨o.slots, k b o (na n) q⟩
  free := fun b o q n _ => by rw [upd_ne (na n), upd_ne (nd q)]; exact n
  there := fun b o q _ => by
   by_cases hb : b = a
   ·rw [hb]; exact hx
   ·exact ⟨o, k b o hb q⟩
  tups := fun b xs q => by rw [upd_ne (at_ne e q exo_tup), upd_ne (ne_of_none q hnd)]; exact q
  frzs := fun b o v q => by rw [upd_ne (at_ne e q exo_frz), upd_ne (ne_of_none q hnd)]; exact q
  tbls := fun b ps q => ⟨#[], by rw [upd_ne (at_ne e q exo_tbl), upd_ne (ne_of_none q hnd), q]; simp⟩ }
theorem hok_exc {G : Hp} {hp h' : Heap} {a dx t1 : Addr} {y : V} {u : Value} (hok : HOk P w G hp) (e : G a = some (exo a C none)) (hnd : G dx = none) (dne : dx ≠ a) (k : ∀ b o, b ≠ a -> hp.get? b = some o -> h'.get? b = some o)
  (hx : h'.get? a = some ({ cls := .ref C, dict := some dx, data := .fields #[.ref t1, .none, .none, .none, .bool false, .none] } : Obj)) (hn : h'.Ns1 dx (fun z => if z = "value" then some u else none)) (ry : RelV y u) :
  HOk P w (upd (upd G dx (exd dx [("value", y)])) a (exo a C (some dx))) h' := fun b o q => by
 by_cases hb : b = a
 ·subst hb
  rw [upd_same] at q
  cases q
  exact exo_ok hx
 ·rw [upd_ne hb] at q
  by_cases hd : b = dx
  ·subst hd
   rw [upd_same] at q
   cases q
   exact exd_ok hn (relO_put (fs := []) ry fun g => True.intro)
  ·rw [upd_ne hd] at q
   exact (hok b o q).stay (fun c v hc z => k c v (by
     rcases hc with hc | hc
     ·rw [hc]; exact hb
     ·exact at_ne e hc exo_own) z)
    (fun c hc => by rw [upd_ne (at_ne e hc exo_own), upd_ne (ne_of_none hc hnd)]; exact hc) (fun c xs hc => by rw [upd_ne (at_ne e hc exo_tup), upd_ne (ne_of_none hc hnd)]; exact hc)
theorem xi_fn (O : XiOk P K C fI cda cc qual fd) (T : OexC K C) (hsup : mg "super" = none) (htop : (P.main.scope.names.lookup ("super" : Str)).isSome = false) (hbs : bootBuiltins "super" = some (.type "super")) :
  FnG P w K mg base CX 1 fI fd ["self", "value"] (spX C) := ⟨fun vs G Q E ⟨a, y, e, _⟩ => by rw [e]; rfl, fun A fr s G as us xs Q E hr e0 hb r ⟨a, y, ex, ea, hq⟩ => by
 subst ex
 have X0 : K.In base := e0.mod.kin
 have X1 : K.In s.heap := X0.keeps fun b ob z => (e0.bs b ob z).1
 have nl : s.heap.NoLimit := e0.mod.nolimit.keeps fun b ob z => (e0.bs b ob z).1
 obtain ⟨t0, hx⟩ := exo_at e0.hok ea
 obtain ⟨mb, gb, eb⟩ := e0.mod.blt
 obtain ⟨u, rfl, ry⟩ : ∃ u, us = [.ref a, u] ∧ RelV y u := by
  cases r with
  | cons r1 r2 => cases r2 with
   | cons r3 r4 =>
    cases r4
    cases (show _ = Value.ref a from r1)
    exact ⟨_, rfl, r3⟩
 have hxK : ∀ o, K.lookup a ≠ some o := fun o z => by
  have := (e0.bs a o (X0 _ _ z)).2
  rw [ea] at this
  cases this
 obtain ⟨a1, a2, a3, p0, p1, p2, p3, p4, p5, p6, p7, p8, p9, dV, kV, doc, pm, an, ct, oc, od, osl, hfd, lf, hpl⟩ := O.fn
 have O' := O
 subst hfd
 refine PySem.ks_codeAny_call_defAt (fd := xiFn qual a1 a2 a3 p0 p1 p2 p3 p4 p5 p6 p7 p8 p9 dV kV doc pm an cda ct cc) (body := xiBody p0 p1 p2 p3 p4 p5 p6 p7 p8 p9) (binds := [("self", .ref a), ("value", u)]) hr.room.depth (X1 _ _ lf) rfl nl (PySem.W.codeRec_of X1 O.code) rfl hb (show ∀ x ∈ xiScope.names, x.2 ≠ .cell by decide) (fun z hz => by
  rcases List.mem_cons.mp hz with rfl | hz
  ·rfl
  ·rcases List.mem_cons.mp hz with rfl | hz
   ·rfl
   ·cases hz) (fun h0 hns hk => ?_)
 have L0 : s.heap.objs.size < h0.objs.size := by
  obtain ⟨o, es, ep, ho, _⟩ := hns
  exact Heap.lt_size ho
 refine xi_body (mg := mg) (mb := mb) (s := ⟨h0, s.gens, s.drawn, s.toks + 2, s.os⟩) (L := s.heap.objs.size) (x := a) (t0 := t0) (u := u) (X1.keeps hk) T O' hns rfl rfl (hk _ _ hx) ?_ hsup ?_ (by rw [eb _ (by decide)]; exact hbs) htop hpl hxK fun h' tk' dx t1 k dn dne hx' hn => ?_
 ·exact (e0.mod.glob.keeps fun b ob z => (e0.bs b ob z).1).keeps hk
 ·exact (gb.keeps fun b ob z => (e0.bs b ob z).1).keeps hk
 ·have k2 : ∀ b o, b ≠ a -> s.heap.get? b = some o -> h'.get? b = some o := fun b o n z => k b o n (hk _ _ z)
  have dn2 : s.heap.objs.size <= dx := Nat.le_trans (Nat.le_of_lt L0) dn
  have hnd : G dx = none := e0.hok.fresh dn2
  exact ⟨.non, _, rfl, e0.bare, un_exc ea hnd dn2 k2 ⟨_, hx'⟩, hok_exc e0.hok ea hnd dne k2 hx' hn ry, rfl, hq dx hnd dne⟩⟩
theorem xi_bindK {s : Shared} {a u : Value} (X : K.In s.heap) (O : XiOk P K C fI cda cc qual fd) : BindsTo s fd ⟨[a], [("value", u)]⟩ [("self", a), ("value", u)] := by
 obtain ⟨a1, a2, a3, p0, p1, p2, p3, p4, p5, p6, p7, p8, p9, dV, kV, doc, pm, an, ct, oc, od, osl, hfd, lf, hpl⟩ := O.fn
 obtain ⟨T, o, n, h1, h2, h3⟩ := O.dfl
 subst hfd
 exact PySem.W.binds_K X h1 h2 h3 rfl rfl
theorem xi_bindP {s : Shared} {a u : Value} (X : K.In s.heap) (O : XiOk P K C fI cda cc qual fd) : BindsTo s fd ⟨[a, u], []⟩ [("self", a), ("value", u)] := by
 obtain ⟨a1, a2, a3, p0, p1, p2, p3, p4, p5, p6, p7, p8, p9, dV, kV, doc, pm, an, ct, oc, od, osl, hfd, lf, hpl⟩ := O.fn
 obtain ⟨T, o, n, h1, h2, h3⟩ := O.dfl
 subst hfd
 exact PySem.W.binds_K X h1 h2 h3 rfl rfl
theorem xi_bind0 {s : Shared} {a : Value} (X : K.In s.heap) (O : XiOk P K C fI cda cc qual fd) : BindsTo s fd ⟨[a], []⟩ [("self", a), ("value", .none)] := by
 obtain ⟨a1, a2, a3, p0, p1, p2, p3, p4, p5, p6, p7, p8, p9, dV, kV, doc, pm, an, ct, oc, od, osl, hfd, lf, hpl⟩ := O.fn
 obtain ⟨T, o, n, h1, h2, h3⟩ := O.dfl
 subst hfd
 exact PySem.W.binds_K X h1 h2 h3 rfl rfl
end
end Tf
set_option maxHeartbeats 1000000
namespace Tf
open PySem L2 PyProof.Rows
abbrev hpX (C a dx : Addr) (y : V) (H : Hp) : Hp := upd (upd (upd H a (exo a C none)) dx (exd dx [("value", y)])) a (exo a C (some dx))
structure XCls (P : Program) (K : PySem.W.Frag) (C fI cda cc : Addr) (qual : Str) (fd : FuncData) : Prop where
 o : XiOk P K C fI cda cc qual fd
 t : OexC K C
 f : XfC K C
 init : PySem.W.findIn K (.ref C) "__init__" = some (some (.ref fI))
 fn : PySem.W.typeIn K (.ref fI) = some (.type "function")
section
variable {X : Cx} {CX : CXT} {C fI cda cc : Addr} {qual : Str} {fd : FuncData} {x : Str} {p pos pos2 kp : Pos} {e : Expr} {te : TE} {y : V} {u : Value} {us : List Value} {kw : List (Str × Value)}
theorem go_exc {pins : List (Addr × Obj)} {σ : L2.St} {H : Hp} {s : Shared} {Q : VK} (T : XCls X.prog X.K C fI cda cc qual fd) (Fn : FnG X.prog X.w X.K X.mg X.base CX 1 fI fd ["self", "value"] (spX C)) (hr : RoomG 2 X.A)
  (hb : ∀ (s : Shared) (a : Addr), X.K.In s.heap -> BindsTo s fd ⟨.ref a :: us, kw⟩ [("self", .ref a), ("value", u)]) (hz : us.length <= sizeLine) (ry : RelV y u) (hx : Passes CX X (fun _ _ _ => False)) (I : Inv X pins σ H s)
  (q : ∀ a dx, H a = none -> H dx = none -> dx ≠ a -> Q (.ref a) (hpX C a dx y H)) : wpAny (model X.prog X.w) X.A (call (.ref C) us kw) (EP X pins σ Q) X.xe s := by
 obtain ⟨nm, q0, N, bs, bm, sn, sub, ab, col, dd, k0, k1, k2, k3, k5, hC, hbm⟩ := T.t.cls
 obtain ⟨hp, g, d, t, os⟩ := s
 have hsz : hp.objs.size <= hp.objs.size + 1 := Nat.le_succ _
 have hn : H (hp.objs.size + 1) = none := I.hok.fresh hsz
 have kk : ∀ b o, hp.get? b = some o -> ((hp.push (PySem.W.kdv_tup us)).push (PySem.HandSPX.excO C hp.objs.size)).get? b = some o := fun b o e => Heap.get?_push_of_some _ (Heap.get?_push_of_some _ e)
 have hget : ((hp.push (PySem.W.kdv_tup us)).push (PySem.HandSPX.excO C hp.objs.size)).get? (hp.objs.size + 1) = some (PySem.HandSPX.excO C hp.objs.size) := by heap_get
 have I2 : Inv X pins σ (upd H (hp.objs.size + 1) (exo (hp.objs.size + 1) C none)) ⟨(hp.push (PySem.W.kdv_tup us)).push (PySem.HandSPX.excO C hp.objs.size), g, d, t, os⟩ :=
  I.laid (t' := t) (a := hp.objs.size + 1) (o := exo (hp.objs.size + 1) C none) (h' := (hp.push (PySem.W.kdv_tup us)).push (PySem.HandSPX.excO C hp.objs.size)) kk hsz (exo_ok hget)
 refine wpAny_call (xn_call F.excBase_ValueError (fun Y => PySem.HandSPX.refsVE_contains Y bm hbm) (I.kIn _ _ hC) (PySem.W.looks_findIn I.kIn T.init) (fun self => PySem.W.bind_fn I.kIn self T.fn) hz
  (codeAny_mono (Fn.run _ X.stack _ _ ⟨Value.ref (hp.objs.size + 1) :: us, kw⟩ [.ref (hp.objs.size + 1), u] [.ref (hp.objs.size + 1), y] (fun v G => v = .non ∧ Q (.ref (hp.objs.size + 1)) G) (fun _ _ _ => False) (hr.make C us kw) (I2.env0.make C us kw)
   (hb _ _ I2.kIn) (.cons rfl (.cons ry .nil)) ⟨_, y, rfl, upd_same, fun dx hd ne => ⟨rfl, ?_⟩⟩) fun r s' hq' => ?_))
 ·have hd' : H dx = none := by
   rw [upd_ne ne] at hd; exact hd
  exact q _ dx hn hd' ne
 ·cases r with
  | error er => exact hx pins σ _ _ er s' I2 hq'
  | ok fl =>
   cases fl with
   | ret u =>
    obtain ⟨v, G2, L, rv, ⟨ev, q3⟩⟩ := I2.after hq'
    subst ev
    exact ⟨rv, ⟨V.ref (hp.objs.size + 1), G2, L, rfl, q3⟩⟩
   | next => exact hq'.elim
   | brk => exact hq'.elim
   | cont => exact hq'.elim
variable {N : Nm} {cl : Cls} {call : Call} {ie : E}
end
def XVal (P : Program) (K : PySem.W.Frag) (mg : Str -> Option Value) (x : Str) : Prop := mg "super" = none ∧ (P.main.scope.names.lookup ("super" : Str)).isSome = false ∧ ∃ C fI cda cc qual fd, mg x = some (.ref C) ∧ XCls P K C fI cda cc qual fd
namespace P
end P
end Tf
set_option maxHeartbeats 1000000
namespace Tf
open PySem L2 PyProof.Rows
abbrev hpK (C a dx : Addr) (o u : Obj) (y : V) (H : Hp) : Hp := upd (upd H dx (.frz u (exd dx [("value", y)]))) a (.frz o (exo a C (some dx)))
def XsO (o : Obj) (C dx : Addr) : Prop := o.cls = .ref C ∧ o.dict = some dx ∧ ∃ vs, o.data = .fields vs
theorem hpK_of {C a dx : Addr} {o u : Obj} {y : V} {H : Hp} (ne : dx ≠ a) : upd (upd (hpX C a dx y H) a (.frz o (exo a C (some dx)))) dx (.frz u (exd dx [("value", y)])) = hpK C a dx o u y H := by
 funext b
 unfold hpX hpK upd
 by_cases h1 : b = dx
 ·subst h1
  simp [ne]
 ·by_cases h2 : b = a
  ·subst h2
   simp [h1]
  ·simp [h1, h2]
section
variable {X : Cx} {CX : CXT} {C fI cda cc : Addr} {qual : Str} {fd : FuncData} {x : Str} {p pos pos2 kp : Pos} {e : Expr} {te : TE} {y : V} {u : Value} {us : List Value} {kw : List (Str × Value)}
theorem go_excK {pins : List (Addr × Obj)} {σ : L2.St} {H : Hp} {s : Shared} {Q : VK} (T : XCls X.prog X.K C fI cda cc qual fd) (Fn : FnG X.prog X.w X.K X.mg X.base CX 1 fI fd ["self", "value"] (spX C)) (hr : RoomG 2 X.A)
  (hb : ∀ (s : Shared) (a : Addr), X.K.In s.heap -> BindsTo s fd ⟨.ref a :: us, kw⟩ [("self", .ref a), ("value", u)]) (hz : us.length <= sizeLine) (ry : RelV y u) (hx : Passes CX X (fun _ _ _ => False)) (I : Inv X pins σ H s)
  (q : ∀ a dx o u, H a = none -> H dx = none -> dx ≠ a -> XsO o C dx -> Q (.ref a) (hpK C a dx o u y H)) : wpAny (model X.prog X.w) X.A (call (.ref C) us kw) (EP X pins σ Q) X.xe s := by
 refine thn (go_exc (Q := fun v G => ∃ a dx, v = .ref a ∧ G = hpX C a dx y H ∧ H a = none ∧ H dx = none ∧ dx ≠ a) T Fn hr hb hz ry hx I fun a dx h1 h2 h3 => ⟨a, dx, rfl, rfl, h1, h2, h3⟩) fun v s1 ⟨z, G, I1, rz, a, dx, ez, eG, h1, h2, h3⟩ => ?_
 subst ez eG
 have ea : hpX C a dx y H a = some (exo a C (some dx)) := upd_same
 obtain ⟨t1, ha⟩ := exo_at I1.hok ea
 obtain ⟨o, I2⟩ := I1.lock ea True.intro
 have ho : XsO o C dx := by
  have e := (I2.hok a _ upd_same).1
  rw [ha] at e
  cases e
  exact ⟨rfl, rfl, _, rfl⟩
 have ed : upd (hpX C a dx y H) a (.frz o (exo a C (some dx))) dx = some (exd dx [("value", y)]) := by
  unfold hpX
  rw [upd_ne h3, upd_ne h3, upd_same]
 obtain ⟨u, I3⟩ := I2.lock ed True.intro
 rw [hpK_of h3] at I3
 exact ⟨.ref a, _, I3, rz, q a dx o u h1 h2 h3 ho⟩
def tX (C : Addr) (te : TE) : TE := fun σ H Q => te σ H fun y H1 => ∀ a dx o u, H1 a = none -> H1 dx = none -> dx ≠ a -> XsO o C dx -> Q (.ref a) (hpK C a dx o u y H1)
theorem pe_mkK (T : XCls X.prog X.K C fI cda cc qual fd) (Fn : FnG X.prog X.w X.K X.mg X.base CX 1 fI fd ["self", "value"] (spX C)) (hr : RoomG 2 X.A) (hg : Gl X x) (hm : X.mg x = some (.ref C)) (hx : Passes CX X (fun _ _ _ => False)) (he : PE X e te)
  (hdb : (x == ("__debug__" : Str)) = false) (hall : (backToKw pos (keywordEach [⟨some "value", e, kp⟩] X.env)).all (·.1.isSome) = true) (hks : (backToKw pos (keywordEach [⟨some "value", e, kp⟩] X.env)).filterMap (·.1) = [("value" : Str)])
  (hpl : ((backTo pos (starEach [] X.env)).any (·.1) || (backToKw pos (keywordEach [⟨some "value", e, kp⟩] X.env)).any (·.1.isNone)) = false) :
  PE X (.Call (.Name x p) [] [⟨some "value", e, kp⟩] pos) (tX C te) := ⟨fun pins s σ H Q I q => by
 refine wpAny_Call_Name_kw (ld_glob I hg hm ?_ hdb)
 refine PySem.W.callWith_KW0 (h₀ := X.base) I.ok.mod.kin T.t.kC hall ?_ hpl
 refine thn ((pk_cons (nm := some "value") (kpos := kp) he pk_nil).run pos pins s σ H (fun zs H1 => match zs with | [y] => ∀ a dx o u, H1 a = none -> H1 dx = none -> dx ≠ a -> XsO o C dx -> Q (.ref a) (hpK C a dx o u y H1) | _ => False) I q) fun ws s2 ⟨zs, H2, I2, rz, q2⟩ => ⟨I2.kIn, ?_⟩
 match zs, q2 with
 | [y], q2 =>
  rw [hks]
  cases rz with
  | cons r1 r2 =>
   cases r2
   exact go_excK (us := []) T Fn hr (fun s a X1 => xi_bindK X1 T.o) (Nat.zero_le _) r1 hx I2 q2⟩
theorem pe_mkP (T : XCls X.prog X.K C fI cda cc qual fd) (Fn : FnG X.prog X.w X.K X.mg X.base CX 1 fI fd ["self", "value"] (spX C)) (hr : RoomG 2 X.A) (hg : Gl X x) (hm : X.mg x = some (.ref C)) (hx : Passes CX X (fun _ _ _ => False)) (he : PE X e te)
  (hdb : (x == ("__debug__" : Str)) = false) (hs : starEach [e] X.env = (false, eval e X.env) :: starEach [] X.env) (hpl : (backTo pos (starEach [] X.env)).any (·.1) = false) : PE X (.Call (.Name x p) [e] [] pos) (tX C te) := ⟨fun pins s σ H Q I q => by
 refine wpAny_Call_Name_kw (ld_glob I hg hm ?_ hdb)
 refine PySem.W.callWith_K (h₀ := X.base) I.ok.mod.kin T.t.kC (thn ((pa_cons he pa_nil hs).run pos pins s σ H (fun zs H1 => match zs with | [y] => ∀ a dx o u, H1 a = none -> H1 dx = none -> dx ≠ a -> XsO o C dx -> Q (.ref a) (hpK C a dx o u y H1) | _ => False) I q) fun ws s2 ⟨zs, H2, I2, rz, q2⟩ => ⟨I2.kIn, ?_⟩) hs hpl
 match zs, q2 with
 | [y], q2 =>
  cases rz with
  | cons r1 r2 =>
   cases r2
   exact go_excK (us := [_]) T Fn hr (fun s a X1 => xi_bindP X1 T.o) (show 1 <= sizeLine by decide) r1 hx I2 q2⟩
theorem pe_mk0 (T : XCls X.prog X.K C fI cda cc qual fd) (Fn : FnG X.prog X.w X.K X.mg X.base CX 1 fI fd ["self", "value"] (spX C)) (hr : RoomG 2 X.A) (hg : Gl X x) (hm : X.mg x = some (.ref C)) (hx : Passes CX X (fun _ _ _ => False))
  (hdb : (x == ("__debug__" : Str)) = false) : PE X (.Call (.Name x p) [] [] pos) (tX C fun _ H Q => Q .non H) := ⟨fun pins s σ H Q I q => by
 refine wpAny_Call_Name_kw (ld_glob I hg hm ?_ hdb)
 exact PySem.W.callWith_K0 I.kIn T.t.kC (go_excK (us := []) (y := .non) (u := .none) T Fn hr (fun s a X1 => xi_bind0 X1 T.o) (Nat.zero_le _) rfl hx I q)⟩
end
section
variable {X : Cx} {N : Nm} {cl : Cls} {call : Call} {C : Addr} {c : Nat} {e : Expr} {ie : E}
theorem tX_of (hc : N.cls c = C) {σ : Sg} {H : Hp} {Q : VK} (t : tEv (ct N X) (ev cl call (.mkX c ie)) σ H Q) : tX C (tEv (ct N X) (ev cl call ie)) σ H Q := by
 obtain ⟨Z0, ρ, h, env, hr, er, q⟩ := t
 refine ⟨Z0, ρ, h, env, hr, er, ?_⟩
 unfold ev at q
 cases e1 : ev cl call ie env h with
 | ex c v => rw [e1] at q; exact q.elim
 | no => rw [e1] at q; exact q.elim
 | ok r h1 =>
  rw [e1] at q
  intro ρ1 H1 v ex hr1 rr a dx o u n1 n2 ne xs
  have q1 : EQ (ct N X) Z0 ρ1 h1 H1 Q (.ok (.loc h1.length) (h1 ++ [.exc c r])) := EQ.later ex q
  have x2 := Ex.fresh hr1 (o := .frz u (exd dx [("value", v)])) n2
  have hr2 := HR.fresh hr1 (o := .frz u (exd dx [("value", v)])) n2
  have n3 : upd H1 dx (.frz u (exd dx [("value", v)])) a = none := by rw [upd_ne ne.symm]; exact n1
  refine EQ.newO (EQ.later x2 q1) hr2 n3 ⟨v, ⟨dx, o, u, _, upd_same, ?_, ?_⟩, ?_⟩
  ·rw [show (ct N X).cls c = C from hc]
   exact xs
  ·rw [upd_ne ne, upd_same]
  ·exact RR.ex (x2.trans (Ex.alloc hr2 n3)) rr
def KnX (P : Program) (K : PySem.W.Frag) (mg : Str -> Option Value) (N : Nm) : Prop := mg "super" = none ∧ (P.main.scope.names.lookup ("super" : Str)).isSome = false ∧ ∀ c, 0 < c -> c < 7 -> ∃ fI cda cc qual fd, XCls P K (N.cls c) fI cda cc qual fd
variable {x : Str} {p pos kp : Pos}
theorem P.mkK (T : KnX X.prog X.K X.mg N) (c0 : 0 < c) (c7 : c < 7) (hm : X.mg x = some (.ref (N.cls c))) (hr : RoomG 2 X.A) (he : PE X e (tEv (ct N X) (ev cl call ie))) (hg : Gl X x := by rfl)
  (hdb : (x == ("__debug__" : Str)) = false := by decide) (hall : (backToKw pos (keywordEach [⟨some "value", e, kp⟩] X.env)).all (·.1.isSome) = true := by rfl) (hks : (backToKw pos (keywordEach [⟨some "value", e, kp⟩] X.env)).filterMap (·.1) = [("value" : Str)] := by rfl)
  (hpl : ((backTo pos (starEach [] X.env)).any (·.1) || (backToKw pos (keywordEach [⟨some "value", e, kp⟩] X.env)).any (·.1.isNone)) = false := by rfl) :
  PE X (.Call (.Name x p) [] [⟨some "value", e, kp⟩] pos) (tEv (ct N X) (ev cl call (.mkX c ie))) := by
 obtain ⟨h1, h2, T⟩ := T
 obtain ⟨fI, cda, cc, qual, fd, T⟩ := T c c0 c7
 exact PE.imp (pe_mkK (CX := CX0) T (xi_fn T.o T.t h1 h2 rfl) hr hg hm (fun _ _ _ _ _ _ _ h => h.elim) he hdb hall hks hpl) fun σ H Q t => tX_of rfl t
theorem P.mkP (T : KnX X.prog X.K X.mg N) (c0 : 0 < c) (c7 : c < 7) (hm : X.mg x = some (.ref (N.cls c))) (hr : RoomG 2 X.A) (he : PE X e (tEv (ct N X) (ev cl call ie))) (hg : Gl X x := by rfl)
  (hdb : (x == ("__debug__" : Str)) = false := by decide) (hs : starEach [e] X.env = (false, eval e X.env) :: starEach [] X.env := by rfl) (hpl : (backTo pos (starEach [] X.env)).any (·.1) = false := by rfl) :
  PE X (.Call (.Name x p) [e] [] pos) (tEv (ct N X) (ev cl call (.mkX c ie))) := by
 obtain ⟨h1, h2, T⟩ := T
 obtain ⟨fI, cda, cc, qual, fd, T⟩ := T c c0 c7
 exact PE.imp (pe_mkP (CX := CX0) T (xi_fn T.o T.t h1 h2 rfl) hr hg hm (fun _ _ _ _ _ _ _ h => h.elim) he hdb hs hpl) fun σ H Q t => tX_of rfl t
theorem P.mk0 (T : KnX X.prog X.K X.mg N) (c0 : 0 < c) (c7 : c < 7) (hm : X.mg x = some (.ref (N.cls c))) (hr : RoomG 2 X.A) (hg : Gl X x := by rfl)
  (hdb : (x == ("__debug__" : Str)) = false := by decide) :
  PE X (.Call (.Name x p) [] [] pos) (tEv (ct N X) (ev cl call (.mkX c (.c .non)))) := by
 obtain ⟨h1, h2, T⟩ := T
 obtain ⟨fI, cda, cc, qual, fd, T⟩ := T c c0 c7
 exact PE.imp (pe_mk0 (CX := CX0) T (xi_fn T.o T.t h1 h2 rfl) hr hg hm (fun _ _ _ _ _ _ _ h => h.elim) hdb) fun σ H Q t => by
  obtain ⟨Z0, ρ, h, env, hr, er, q⟩ := tX_of (ie := .c .non) rfl t
  unfold ev at q
  exact q ρ H .non .refl hr (by unfold RR VR; rfl)
theorem P.excV (T : KnX X.prog X.K X.mg N) (he : PE X e (tEv (ct N X) (ev cl call ie))) (hab : attributeBase e "value" X.env (eval e X.env) = eval e X.env := by rfl) : PE X (.Attribute e "value" pos) (tEv (ct N X) (ev cl call (.excV ie))) :=
 ⟨fun pins s σ H Q I ⟨Z0, ρ, h, env, hr, er, q⟩ => by
 have q0 : tEv (ct N X) (ev cl call ie) σ H fun v H1 => ∃ a y c, v = .ref a ∧ 0 < c ∧ c < 7 ∧ XoN H1 a (N.cls c) y ∧ Q y H1 := by
  refine ⟨Z0, ρ, h, env, hr, er, ?_⟩
  unfold ev at q
  cases e1 : ev cl call ie env h with
  | ex c v => rw [e1] at q; exact q.elim
  | no => rw [e1] at q; exact q.elim
  | ok r h1 =>
   rw [e1] at q
   cases r with
   | w w => exact q.elim
   | loc l =>
    dsimp only at q
    cases eo : h1[l]? with
    | none => rw [eo] at q; exact q.elim
    | some ob =>
     rw [eo] at q
     cases ob with
     | exc c r =>
      dsimp only at q
      split at q
      case isFalse => exact q.elim
      rename_i hc
      intro ρ1 H1 v ex hr1 ⟨a, ea, ev⟩
      obtain ⟨y, xo, ry⟩ := hr1.ob l _ a eo ea (by intro z; cases z)
      exact ⟨a, y, c, ev, hc.1, hc.2, xo, q ρ1 H1 y ex hr1 ry⟩
     | _ => exact q.elim
 refine attr_of hab (thn (he.run pins s σ H _ I q0) fun u s1 ⟨x, H1, I1, rx, a, y, c, ex, c0, c7, ⟨dx, o, u2, φ, ea, ⟨z1, z2, vs, z3⟩, ed⟩, q⟩ => ?_)
 subst ex
 obtain rfl : u = Value.ref a := rx
 obtain ⟨fI, cda, cc, qual, fd, T⟩ := T.2.2 c c0 c7
 have ha := (I1.hok a _ ea).1
 have x2 : s1.heap.get? dx = some u2 ∧ ObjOk X.prog X.w H1 s1.heap dx (.ext fun h => ∃ mA, h.Ns1 dx mA ∧ ∀ f, RelO (([("value", y)] : List (Str × V)).lookup f) (mA f)) := I1.hok dx _ ed
 obtain ⟨mA, hns, hr⟩ := x2.2.1
 obtain ⟨od, ho, hl⟩ := lookIn_ns hns
 obtain ⟨u, hu, ru⟩ := RelO.some_of (v := y) (o := mA "value") (hr "value")
 have J : PySem.W.InstAt s1.heap a o (N.cls c) (some od) := ⟨ha, z1, by unfold PySem.W.notCls; rw [z3] <;> rfl, by rw [z2]; exact ho⟩
 exact HandSPX.exc_get I1.kIn J T.f.ga T.f.gg T.f.exC (PySem.W.findObj_own T.f.hdC T.o.val rfl (by rw [hl, hu])) (handed_of ru) ⟨y, H1, I1.tok _, ru, q⟩⟩
end
end Tf
set_option maxHeartbeats 1000000
namespace Tf
open PySem L2 PyProof.Rows
mutual
def toE : W -> PyData
 | .non => .none
 | .bl b => .bool b
 | .int i => .int i
 | .str x => .str (tx x)
 | .tup ws => .tuple (toEs ws)
 | .lst ws => .list (toEs ws)
 | .dct _ _ => .dict []
 | _ => .none
def toEs : List W -> List PyData
 | [] => []
 | w :: ws => toE w :: toEs ws
end
mutual
theorem showE_le : ∀ (n : Nat) (w : W), showE n w = true -> (toE w).shown.length <= reprLen w
 | _, .non, _ => by unfold toE PyData.shown reprLen; decide
 | _, .bl b, _ => by unfold toE PyData.shown reprLen; cases b <;> decide
 | _, .int i, _ => by unfold toE PyData.shown reprLen; exact int_le i
 | n, .str x, h => by
  have := shown_le (.str x) (by unfold showE at h; unfold showOk; exact h)
  unfold toD at this
  unfold toE
  exact this
 | n + 1, .tup ws, h => by
  unfold toE PyData.shown reprLen
  unfold showE at h
  have := pilesE_le n ws h
  have := tuple_le (PyData.shownAll (toEs ws))
  omega
 | n + 1, .lst ws, h => by
  unfold toE PyData.shown reprLen
  unfold showE at h
  have := pilesE_le n ws h
  have := list_le (PyData.shownAll (toEs ws))
  omega
 | _, .dct _ _, h => by unfold toE PyData.shown reprLen; decide +kernel
 | 0, .tup _, h => by unfold showE at h; cases h
 | 0, .lst _, h => by unfold showE at h; cases h
 | _, .ins _ _ _, h => by unfold showE at h; cases h
 | _, .exc _ _, h => by unfold showE at h; cases h
 | _, .scr _, h => by unfold showE at h; cases h
 | _, .rep _, h => by unfold showE at h; cases h
theorem pilesE_le : ∀ (n : Nat) (ws : List W), showEs n ws = true -> piled (PyData.shownAll (toEs ws)) <= reprLens ws
 | _, [], _ => by unfold toEs PyData.shownAll reprLens; exact Nat.le_refl _
 | n, w :: ws, h => by
  unfold showEs at h
  rw [Bool.and_eq_true] at h
  unfold toEs PyData.shownAll reprLens
  rw [piled_cons]
  have := showE_le n w h.1
  have := pilesE_le n ws h.2
  omega
end
mutual
theorem toE_depth : ∀ (n : Nat) (w : W), showE n w = true -> (toE w).depth <= n
 | _, .non, _ => by unfold toE PyData.depth; omega
 | _, .bl b, _ => by unfold toE PyData.depth; omega
 | _, .int i, _ => by unfold toE PyData.depth; omega
 | _, .str x, _ => by unfold toE PyData.depth; omega
 | n + 1, .tup ws, h => by
  unfold showE at h
  have := toEs_depth n ws h
  unfold toE PyData.depth; omega
 | n + 1, .lst ws, h => by
  unfold showE at h
  have := toEs_depth n ws h
  unfold toE PyData.depth; omega
 | n + 1, .dct _ _, h => by unfold toE PyData.depth PyData.depthKv; omega
 | 0, .dct _ _, h => by unfold showE at h; cases h
 | 0, .tup _, h => by unfold showE at h; cases h
 | 0, .lst _, h => by unfold showE at h; cases h
 | _, .ins _ _ _, h => by unfold showE at h; cases h
 | _, .exc _ _, h => by unfold showE at h; cases h
 | _, .scr _, h => by unfold showE at h; cases h
 | _, .rep _, h => by unfold showE at h; cases h
theorem toEs_depth : ∀ (n : Nat) (ws : List W), showEs n ws = true -> PyData.depthAll (toEs ws) <= n
 | _, [], _ => by unfold toEs PyData.depthAll; omega
 | n, w :: ws, h => by
  unfold showEs at h
  rw [Bool.and_eq_true] at h
  have := toE_depth n w h.1
  have := toEs_depth n ws h.2
  unfold toEs PyData.depthAll; omega
end
section
variable {X : Cx} {N : Nm} {pins : List (Addr × Obj)} {σ : Sg} {H : Hp} {s : Shared} {Z : Addr -> Prop}
mutual
theorem VR.showK (I : Inv X pins σ H s) : ∀ (n : Nat) (w : W) (v : V) (u : Value), showE n w = true -> reprLen w <= 1000000 -> VR (ct N X) H Z w v -> RelV v u ->
  ∃ as bs, Reads s.heap u (toE w) as ∧ ReadAtMost s.heap (toE w).depth bs ∧ ReprK X.prog X.w bs s.heap (toE w).depth u (toE w).shown
 | n, .non, v, u, _, _, h, r => by
  have := vr_non h
  subst this
  cases r
  unfold toE PyData.shown
  exact ⟨_, [], .none, fun _ h => (nomatch h), .of_is ReprIs.none _ _ _⟩
 | n, .bl b, v, u, _, _, h, r => by
  have := vr_bl h
  subst this
  cases r
  unfold toE PyData.shown
  exact ⟨_, [], .bool b, fun _ h => (nomatch h), .of_is (ReprIs.bool b) _ _ _⟩
 | n, .int i, v, u, d, _, h, r => by
  have := vr_int h
  subst this
  obtain ⟨t, rfl⟩ := r
  unfold showE at d
  unfold toE PyData.shown
  exact ⟨_, [], .int i t, fun _ h => (nomatch h), .of_is (ReprIs.int t (Nat.lt_of_lt_of_le (Nat.ble_eq.mp d) (by decide))) _ _ _⟩
 | n, .str x, v, u, d, z, h, r => by
  have := vr_str h
  subst this
  obtain ⟨t, rfl⟩ := r
  have le := showE_le n (.str x) d
  unfold toE PyData.shown at le ⊢
  exact ⟨_, [], .str _ t, fun _ h => (nomatch h), .of_is (ReprIs.str _ t (Nat.le_trans le (Nat.le_trans z (by decide)))) _ _ _⟩
 | n + 1, .tup ws, v, u, d, z, h, r => by
  unfold showE at d
  unfold VR at h
  obtain ⟨a, vs, rfl, hs, hr⟩ := h
  cases r
  obtain ⟨its, rv, ⟨o, ho, hc, m, hd⟩, _⟩ := I.tuple hs.t
  obtain ⟨as, bs, h4, hb, hk⟩ := VRs.showK I n ws vs its d (by unfold reprLen at z; omega) hr rv
  have rd : Reads s.heap (.ref a) (.tuple (toEs ws)) _ := .tuple ho hc hd (by simpa using h4)
  have hna : a ∉ bs := not_mem_of_deeper rd (by simp only [PyData.depth]; omega) hb
  unfold toE
  refine ⟨_, a :: bs, rd, ReadAtMost.cons rd (by simp only [PyData.depth]; omega) hb, ?_⟩
  simp only [PyData.depth, PyData.shown]
  exact ReprK.tuple ho hc hd hna (by simpa using hk)
 | n + 1, .lst ws, v, u, d, z, h, r => by
  unfold showE at d
  unfold VR at h
  obtain ⟨a, vs, rfl, hs, _, hr⟩ := h
  cases r
  obtain ⟨its, rv, ⟨o, m, ho, hc, hdn, hd⟩, _⟩ := I.list (.of hs)
  obtain ⟨as, bs, h4, hb, hk⟩ := VRs.showK I n ws vs its d (by unfold reprLen at z; omega) hr rv
  have rd : Reads s.heap (.ref a) (.list (toEs ws)) _ := .list ho hc hd (by simpa using h4)
  have hna : a ∉ bs := not_mem_of_deeper rd (by simp only [PyData.depth]; omega) hb
  unfold toE
  refine ⟨_, a :: bs, rd, ReadAtMost.cons rd (by simp only [PyData.depth]; omega) hb, ?_⟩
  simp only [PyData.depth, PyData.shown]
  cases its with
  | nil =>
   cases hk' : toEs ws with
   | nil =>
    simp only [PyData.shownAll, listText_nil]
    exact ReprK.listEmpty ho hc hd
   | cons x l =>
    rw [hk'] at h4
    cases h4
  | cons x l => exact ReprK.list ho hc hd hna (by simpa using hk.length_eq) (fun i y e => hk.item i y (by simpa using e))
 | n + 1, .dct ks us, v, u, d, z, h, r => by
  unfold showE at d
  rw [Bool.and_eq_true] at d
  obtain rfl : ks = [] := List.isEmpty_iff.mp d.1
  unfold VR at h
  obtain ⟨a, kv, vv, rfl, ed, _, rk, ru⟩ := h
  cases r
  obtain ⟨o, es, ep, ul, zl, D⟩ := dict_is I ed rk
  have ee : es = #[] := by
   have := D.el
   obtain ⟨l⟩ := es
   simpa [ents] using this
  subst ee
  have rd : Reads s.heap (.ref a) (.dict []) _ := .dict D.d.at_ D.d.ex.1 D.d.data .nil .nil
  unfold toE
  refine ⟨_, [a], rd, fun b hm => by
   obtain rfl := List.mem_singleton.mp hm
   exact ⟨_, _, rd, Nat.le_refl _⟩, ?_⟩
  simp only [PyData.depth, PyData.shown, PyData.depthKv]
  exact ReprK.dict D.d.at_ D.d.ex.1 D.d.data D.d.sm (by simp) .nil
 | 0, .dct _ _, _, _, h, _, _, _ => by unfold showE at h; cases h
 | 0, .tup _, _, _, h, _, _, _ => by unfold showE at h; cases h
 | 0, .lst _, _, _, h, _, _, _ => by unfold showE at h; cases h
 | _, .ins _ _ _, _, _, h, _, _, _ => by unfold showE at h; cases h
 | _, .exc _ _, _, _, h, _, _, _ => by unfold showE at h; cases h
 | _, .scr _, _, _, h, _, _, _ => by unfold showE at h; cases h
 | _, .rep _, _, _, h, _, _, _ => by unfold showE at h; cases h
theorem VRs.showK (I : Inv X pins σ H s) : ∀ (n : Nat) (ws : List W) (vs : List V) (us : List Value), showEs n ws = true -> reprLens ws <= 1000000 -> VRs (ct N X) H Z ws vs -> Vals vs us ->
  ∃ as bs, ReadsAll s.heap us (toEs ws) as ∧ ReadAtMost s.heap (PyData.depthAll (toEs ws)) bs ∧ ReprAllK X.prog X.w bs s.heap (PyData.depthAll (toEs ws)) us (PyData.shownAll (toEs ws))
 | n, [], vs, us, _, _, h, r => by
  unfold VRs at h
  subst h
  cases r
  unfold toEs PyData.shownAll
  exact ⟨_, [], .nil, fun _ h => (nomatch h), .nil⟩
 | n, w :: ws, vs, us, d, z, h, r => by
  unfold showEs at d
  rw [Bool.and_eq_true] at d
  unfold VRs at h
  obtain ⟨v, t, rfl, h1, h2⟩ := h
  unfold reprLens at z
  cases r with
  | cons r1 r2 =>
   obtain ⟨a1, b1, q1, hb1, k1⟩ := VR.showK I n w v _ d.1 (by omega) h1 r1
   obtain ⟨a2, b2, q2, hb2, k2⟩ := VRs.showK I n ws t _ d.2 (by omega) h2 r2
   unfold toEs
   refine ⟨_, b1 ++ b2, .cons q1 q2, ?_, ?_⟩
   ·intro b hm
    simp only [PyData.depthAll]
    rcases List.mem_append.mp hm with hm | hm
    ·obtain ⟨d', as', r', hd'⟩ := hb1 b hm
     exact ⟨d', as', r', Nat.le_trans hd' (Nat.le_max_left _ _)⟩
    ·obtain ⟨d', as', r', hd'⟩ := hb2 b hm
     exact ⟨d', as', r', Nat.le_trans hd' (Nat.le_max_right _ _)⟩
   ·simp only [PyData.depthAll, PyData.shownAll]
    exact .cons ((k1.more fun b hb => List.mem_append_left _ hb).level_le (Nat.le_max_left _ _)) (k2.more_le (fun b hb => List.mem_append_right _ hb) (Nat.le_max_right _ _))
end
theorem repr_any {k : Nat} (hr : RoomG k X.A) (I : Inv X pins σ H s) {w : W} {v : V} {u : Value} (ok : reprOkE w = true) (rv : VR (ct N X) H Z w v) (ru : RelV v u) {E : Value -> Shared -> Prop} {Q : Value -> Shared -> Prop}
  (q : ∀ s' t, Inv X pins σ H s' -> Q (.str (toE w).shown t) s') : wpAny (model X.prog X.w) X.A (call (.builtin "repr") [u]) Q E s := by
 unfold reprOkE at ok
 rw [Bool.and_eq_true] at ok
 obtain ⟨d, z⟩ := ok
 have z : reprLen w <= 1000000 := Nat.le_of_lt (Nat.ble_eq.mp z)
 have le := showE_le 40 w d
 have dp := toE_depth 40 w d
 have un := hr.room.un
 have sz : (toE w).shown.length <= sizeLine := Nat.le_trans le (Nat.le_trans z (by decide))
 cases w with
 | non =>
  have := vr_non rv
  subst this
  cases ru
  exact PySem.P.repr_of_none (by have := q _ s.toks (I.tok (s.toks + 1)); unfold toE PyData.shown at this; exact this)
 | bl b =>
  have := vr_bl rv
  subst this
  cases ru
  exact PySem.P.repr_of_bool (by have := q _ s.toks (I.tok (s.toks + 1)); unfold toE PyData.shown at this; exact this)
 | int i =>
  have := vr_int rv
  subst this
  obtain ⟨t, rfl⟩ := ru
  unfold showE at d
  exact PySem.P.repr_of_int (Nat.lt_of_lt_of_le (Nat.ble_eq.mp d) (by decide)) (by have := q _ s.toks (I.tok (s.toks + 1)); unfold toE PyData.shown at this; exact this)
 | str x =>
  have := vr_str rv
  subst this
  obtain ⟨t, rfl⟩ := ru
  unfold toE PyData.shown at sz
  exact PySem.P.repr_of_str (by have := q _ s.toks (I.tok (s.toks + 1)); unfold toE PyData.shown at this; exact this) sz
 | tup ws =>
  unfold showE at d
  unfold VR at rv
  obtain ⟨a, vs, rfl, hs, hr2⟩ := rv
  cases ru
  obtain ⟨its, rv, ⟨o, ho, hc, m, hd⟩, _⟩ := I.tuple hs.t
  obtain ⟨as, bs, h4, hb, hk⟩ := VRs.showK I 39 ws vs its d (by unfold reprLen at z; omega) hr2 rv
  have rd : Reads s.heap (.ref a) (.tuple (toEs ws)) _ := .tuple ho hc hd (by simpa using h4)
  have hna : a ∉ bs := not_mem_of_deeper rd (by simp only [PyData.depth]; omega) hb
  unfold toE at q sz dp
  simp only [PyData.shown, PyData.depth] at q sz dp
  refine call_repr_slot (by omega) ⟨o, ho, hc⟩ F.slot_tuple_repr (call_tuple_reprK ho hc hd hna (by simpa using hk) hr.gd (fun b _ => Clear.nil b) (by show X.A.units + 1 + _ < _; omega) (fun _ _ e => e) (fun h' u tk hk => ⟨_, _, rfl, q _ u (I.kept (t' := tk) hk)⟩) sz)
 | lst ws =>
  unfold showE at d
  unfold VR at rv
  obtain ⟨a, vs, rfl, hs, _, hr2⟩ := rv
  cases ru
  obtain ⟨its, rv, ⟨o, m, ho, hc, hdn, hd⟩, _⟩ := I.list (.of hs)
  obtain ⟨as, bs, h4, hb, hk⟩ := VRs.showK I 39 ws vs its d (by unfold reprLen at z; omega) hr2 rv
  have rd : Reads s.heap (.ref a) (.list (toEs ws)) _ := .list ho hc hd (by simpa using h4)
  have hna : a ∉ bs := not_mem_of_deeper rd (by simp only [PyData.depth]; omega) hb
  unfold toE at q sz dp
  simp only [PyData.shown, PyData.depth] at q sz dp
  refine call_repr_slot (by omega) ⟨o, ho, hc⟩ F.slot_list_repr.toG ?_
  cases its with
  | nil =>
   cases hk' : toEs ws with
   | nil =>
    rw [hk'] at q
    simp only [PyData.shownAll, listText_nil] at q
    exact call_list_repr_empty ⟨o, ho, hc⟩ ho hd ⟨_, _, rfl, q _ _ (I.kept (t' := _) fun _ _ e => e)⟩
   | cons x l =>
    rw [hk'] at h4
    cases h4
  | cons x l =>
   exact call_list_reprK ho hc hd hna (by simpa using hk.length_eq) (fun i y e => hk.item i y (by simpa using e)) hr.gd (fun b _ => Clear.nil b) (by show X.A.units + 1 + _ < _; omega) (fun _ _ e => e) (fun h' u tk hk => ⟨_, _, rfl, q _ u (I.kept (t' := tk) hk)⟩) sz
 | dct ks us =>
  unfold showE at d
  rw [Bool.and_eq_true] at d
  obtain rfl : ks = [] := List.isEmpty_iff.mp d.1
  unfold VR at rv
  obtain ⟨a, kv, vv, rfl, ed, _, rk, _⟩ := rv
  cases ru
  obtain ⟨o, es, ep, ul, zl, D⟩ := dict_is I ed rk
  have ee : es = #[] := by
   have := D.el
   obtain ⟨l⟩ := es
   simpa [ents] using this
  subst ee
  unfold toE at q sz dp
  simp only [PyData.shown] at q sz dp
  exact call_repr_slot (by omega) ⟨o, D.d.at_, D.d.ex.1⟩ F.slot_dict_repr (call_dict_reprK D.d.at_ D.d.ex.1 D.d.data D.d.sm (as := []) (d := 0) (by simp) .nil hr.gd (fun b _ => Clear.nil b) (by show X.A.units + 1 + _ < _; omega) (fun _ _ e => e) (fun h' u tk hk => ⟨_, _, rfl, q _ u (I.kept (t' := tk) hk)⟩) sz)
 | ins _ _ _ => unfold showE at d; cases d
 | exc _ _ => unfold showE at d; cases d
 | scr _ => unfold showE at d; cases d
 | rep _ => unfold showE at d; cases d
end
end Tf
set_option maxHeartbeats 1000000
namespace Tf
open PySem L2 PyProof.Rows
structure XKit (K : PySem.W.Frag) (D : Addr) : Prop where
 f : XfC K D
 dc : PySem.W.findIn K (.ref D) "__class__" = some (some (.builtin "object.__class__"))
 mr : PySem.W.mroIn K D (.type "object") = some true
 g1 : PySem.W.specialIn K (.builtin "object.__class__") "__get__" = some (some (.builtin "getset_descriptor.__get__"))
 g2 : PySem.W.takesIn K (.builtin "object.__class__") = some true
def XIs (K : PySem.W.Frag) (N : Nm) (u : Value) (cs : List Nat) : Prop := ∀ c, 0 < c -> c < 7 -> XKit K (N.cls c) ∧ PySem.W.kitOne K (.ref (N.cls c)) u = some (cs.contains c)
def rIsX (K : PySem.W.Frag) : List V -> Hp -> VK -> Prop := fun xs H Q => ∃ (a D : Addr) (y c : V) (u : Value) (b : Bool), xs = [.ref a, c] ∧ ClsV c u ∧ XoN H a D y ∧ XKit K D ∧ PySem.W.kitOne K (.ref D) u = some b ∧ Q (.bl b) H
section
variable {X : Cx} {N : Nm} {cl : Tf.Cls} {call : Call} {fuel : Nat}
theorem call_isX : CallR X (.builtin "isinstance") (rIsX X.K) := by
 intro pins s σ H xs us Q I r ⟨a, D, y, c, u, b, ex, k, ⟨dx, o, u3, φ, ea, ⟨z1, z2, vs, z3⟩, ed⟩, T, e, q⟩
 subst ex
 obtain ⟨u1, u2, rfl, r1, r2⟩ := vals2 r
 have e2 := k.eq r2
 subst e2
 cases (show u1 = Value.ref a from r1)
 have ha := (I.hok a _ ea).1
 have hd := (I.hok dx _ ed).1
 have J : PySem.W.InstAt s.heap a o D (some u3) := ⟨ha, z1, by unfold PySem.W.notCls; rw [z3] <;> rfl, by rw [z2]; exact hd⟩
 have hcl : (PySem.W.clsIn X.K D).isSome = true := let ⟨cd, h, _⟩ := PySem.W.any_some T.f.hdC; by rw [h]; rfl
 exact PySem.W.kia_one (PySem.W.kitx_exc hcl T.f.ga T.f.gg T.f.exC T.dc T.g1 T.g2 T.mr) I.kIn J e (fun z => nomatch z) fun tk => ⟨.bl b, H, I.tok tk, rfl, q⟩
theorem P.isX {e c : Expr} {ie : E} {cv : V} {u : Value} {cs : List Nat} {p pos : Pos} (hm : X.mg "isinstance" = none) (he : PE X e (tEv (ct N X) (ev cl call ie))) (hc : PE X c (tC cv)) (k : ClsV cv u) (ok : XIs X.K N u cs) (hg : Gl X "isinstance" := by rfl)
  (h1 : starEach [e, c] X.env = (false, eval e X.env) :: starEach [c] X.env := by rfl) (h2 : starEach [c] X.env = (false, eval c X.env) :: starEach [] X.env := by rfl) (hpl : (backTo pos (starEach [c] X.env)).any (·.1) = false := by rfl) :
  PE X (.Call (.Name "isinstance" p) [e, c] [] pos) (tEv (ct N X) (ev cl call (.isX cs ie))) :=
 PE.imp (pe_callB call_isX hg hm rfl (pa_cons he (pa_cons hc pa_nil h2) h1) (by decide) (by decide) h1 hpl) fun σ H Q ⟨Z0, ρ, h, env, hr, er, q⟩ => by
  refine ⟨Z0, ρ, h, env, hr, er, ?_⟩
  unfold ev at q
  cases e1 : ev cl call ie env h with
  | ex c v => rw [e1] at q; exact q.elim
  | no => rw [e1] at q; exact q.elim
  | ok r h1 =>
   rw [e1] at q
   cases r with
   | w w => exact q.elim
   | loc l =>
    dsimp only at q
    cases eo : h1[l]? with
    | none => rw [eo] at q; exact q.elim
    | some ob =>
     rw [eo] at q
     cases ob with
     | exc c r =>
      dsimp only at q
      split at q
      case isFalse => exact q.elim
      rename_i hc
      intro ρ1 H1 v ex hr1 ⟨a, ea, ev⟩
      subst ev
      obtain ⟨y, xo, ry⟩ := hr1.ob l _ a eo ea (by intro z; cases z)
      obtain ⟨t1, t2⟩ := ok c hc.1 hc.2
      exact ⟨a, N.cls c, y, _, u, _, rfl, k, xo, t1, t2, q ρ1 H1 _ ex hr1 (show VR _ _ _ _ _ from vr_bl_i)⟩
     | _ => exact q.elim
theorem P.repL {a b : Expr} {ia ib : E} {pos lp : Pos} (pa : PE X a (tEv (ct N X) (ev cl call ia))) (pb : PE X b (tEv (ct N X) (ev cl call ib))) (hs : starEach [a] X.env = (false, eval a X.env) :: starEach [] X.env := by rfl) :
  PE X (.BinOp (.List [a] lp) .Mult b pos) (tEv (ct N X) (ev cl call (.repL ia ib))) :=
 PE.imp (pe_op op_rep (pe_lst (pa_cons pa pa_nil hs)) pb) fun σ H Q ⟨Z0, ρ, h, env, hr, er, q⟩ => by
  unfold ev at q
  cases e1 : ev cl call ia env h with
  | ex c v => rw [e1] at q; exact q.elim
  | no => rw [e1] at q; exact q.elim
  | ok r h1 =>
   rw [e1] at q
   dsimp only at q
   refine tEv.bind hr er e1 fun H1 ρ1 v n1 rr => ?_
   refine ⟨show 1 <= sizeLine by decide, fun p np => ?_⟩
   have x2 := Ex.fresh (o := .lst [v]) n1.hr np
   have hr2 := n1.hr.fresh (o := .lst [v]) np
   refine ⟨Z0, ρ1, h1, env, hr2, n1.er.ex x2, ?_⟩
   cases e2 : ev cl call ib env h1 with
   | ex c v => rw [e2] at q; exact q.elim
   | no => rw [e2] at q; exact q.elim
   | ok r2 h2 =>
    rw [e2] at q
    cases r2 with
    | loc l => exact q.elim
    | w w =>
     cases w with
     | int k =>
      dsimp only at q
      split at q
      case isFalse => exact q.elim
      rename_i hk
      intro ρ3 H3 y ex3 hr3 ry
      have hy := vr_int (rr_w ry)
      subst hy
      have hp3 : H3 p = some (.lst [v]) := (ex3.fr p _ upd_same (fun z => n1.hr.new np (.inl z))).1
      refine ⟨p, k, [v], rfl, rfl, hp3, by omega, by omega, ?_, fun p2 np2 => ?_⟩
      ·have sz : (1000 : Nat) <= sizeLine := by decide
       simp only [List.length_cons, List.length_nil]
       omega
      have ff : (List.replicate k.toNat [v]).flatten = List.replicate k.toNat v := by
       generalize k.toNat = m
       induction m with
       | zero => rfl
       | succ m ih => rw [List.replicate_succ, List.replicate_succ, List.flatten_cons, ih]; rfl
      rw [ff]
      have rr3 : RR (ct N X) H3 (Av ρ3 h2 Z0) ρ3 r v := RR.ex (x2.trans ex3) rr
      have ex4 : Ex ρ3 h2 H3 (ρ3 ++ [p2]) (h2 ++ [.lst (List.replicate k.toNat r)]) (L2.upd H3 p2 (HO.lst (List.replicate k.toNat v))) := Ex.alloc hr3 np2
      have many : ∀ m : Nat, RRs (ct N X) (L2.upd H3 p2 (HO.lst (List.replicate k.toNat v))) (Av (ρ3 ++ [p2]) (h2 ++ [.lst (List.replicate k.toNat r)]) Z0) (ρ3 ++ [p2]) (List.replicate m r) (List.replicate m v) := fun m => by
       induction m with
       | zero => rfl
       | succ m ih => exact ⟨v, _, rfl, RR.ex ex4 rr3, ih⟩
      exact EQ.newO (EQ.later (n1.ex.trans (x2.trans ex3)) q) hr3 np2 ⟨_, upd_same, many _⟩
     | _ => exact q.elim
theorem fold_rep (a : Array Nat) : ∀ (m : Nat) (acc : Array Nat), (List.replicate m a).foldl (· ++ ·) acc = acc ++ (List.replicate m a.toList).flatten.toArray
 | 0, acc => by simp
 | m + 1, acc => by
  rw [List.replicate_succ, List.foldl_cons, fold_rep a m, List.replicate_succ, List.flatten_cons]
  obtain ⟨a⟩ := a
  simp
theorem o_mulS : OpR X (binaryOp .Mult) (rOpR (ct N X) .mulS) := by
 intro pins s σ H x y v u Q I rx ry t
 obtain ⟨Z0, ρ, h, a, b, w, hr, va, vb, e0, q⟩ := t.ws fun _ _ _ => rfl
 have e : op_mulS [a, b] = some w := e0
 clear e0
 unfold op_mulS at e
 split at e
 case h_2 => cases e
 rename_i x1 j e9
 obtain ⟨e8, e7⟩ := (List.cons.inj e9)
 obtain ⟨e7, _⟩ := (List.cons.inj e7)
 subst e8 e7
 split at e
 case isFalse => cases e
 rename_i hc
 cases e
 obtain ⟨j0, j1, hx⟩ := hc
 have h1 := vr_str va
 have h2 := vr_int vb
 subst h1 h2
 obtain ⟨t1, rfl⟩ := rx
 obtain ⟨t2, rfl⟩ := ry
 have lx : (tx x1).length = x1.length := by simp [tx, Str.length]
 have fin : ∀ (u : Tok) (s' : Shared), Inv X pins σ H s' -> EP X pins σ Q (.str (tx (List.replicate j.toNat x1).flatten) u) s' := fun u s' I' => ⟨.str (tx (List.replicate j.toNat x1).flatten), H, I', ⟨u, rfl⟩, q.val hr (by unfold VR; rfl)⟩
 have small : x1.length * j.toNat <= 1000 * 1000 := Nat.mul_le_mul (by omega) (by omega)
 refine PySem.P.mul_str (by
   rw [decide_eq_false (by omega), decide_eq_false (by omega)]; rfl) (fun h1 h2 => ?_) (fun h1 h2 => ?_) ?_
 ·rw [lx]
  have : (1000 : Int) <= (2 ^ 63 - 1) / j := by
   rw [Int.le_ediv_iff_mul_le (by omega)]
   omega
  omega
 ·rw [lx]
  have le : x1.length * j.toNat <= sizeLine := Nat.le_trans small (by decide)
  unfold Builtin.Str.tooLong
  exact decide_eq_false (by omega)
 ·split
  ·rename_i hj
   have : j.toNat = 0 := by omega
   have f := fin s.toks { s with toks := s.toks + 1 } (I.tok _)
   rw [this] at f
   exact ⟨by decide, f⟩
  ·split
   ·rename_i hj hn
    rw [Bool.or_eq_true, beq_iff_eq, beq_iff_eq, lx] at hn
    have e3 : (List.replicate j.toNat x1).flatten = x1 := by
     rcases hn with rfl | hn
     ·simp
     ·obtain rfl := List.length_eq_zero_iff.mp hn
      generalize j.toNat = m
      induction m with
      | zero => rfl
      | succ m ih => rw [List.replicate_succ, List.flatten_cons, ih]; rfl
    have f := fin t1 s I
    rw [e3] at f
    exact f
   ·have e4 : (⟨(List.replicate j.toNat (tx x1).cps).foldl (· ++ ·) #[]⟩ : Str) = tx (List.replicate j.toNat x1).flatten := by
     rw [fold_rep]
     simp [tx]
    rw [e4]
    refine ⟨?_, fin _ _ (I.tok _)⟩
    have : (tx (List.replicate j.toNat x1).flatten).length = x1.length * j.toNat := by simp [tx, Str.length, Nat.mul_comm]
    rw [this]
    exact Nat.le_trans small (by decide)
theorem P.frE {e : Expr} {ie : E} (p : PE X e (tEv (ct N X) (ev cl call ie))) : PE X e (tEv (ct N X) (ev cl call (.frE ie))) :=
 PE.imp p fun σ H Q ⟨Z0, ρ, h, env, hr, er, q⟩ => by
  refine ⟨Z0, ρ, h, env, hr, er, ?_⟩
  unfold ev at q
  cases e1 : ev cl call ie env h with
  | ex c v => rw [e1] at q; exact q.elim
  | no => rw [e1] at q; exact q.elim
  | ok r h1 =>
   rw [e1] at q
   cases r with
   | w w => exact q.elim
   | loc l =>
    dsimp only at q
    cases e2 : fz h1 0 20 (.loc l) with
    | none => rw [e2] at q; exact q.elim
    | some w =>
     rw [e2] at q
     dsimp only at q
     generalize hL : reach h1 20 (.loc l) = L at q
     intro ρ1 H1 v ex hr1 rv
     have live : ∀ {b}, Live ρ1 (kill h1 L) b -> Live ρ1 h1 b ∧ ∀ m ∈ L, ρ1[m]? ≠ some b := fun {b} ⟨n, o, z1, z2, d⟩ => by
      obtain ⟨y1, y2⟩ := kill_get z2 d
      exact ⟨⟨n, o, z1, y1, d⟩, fun m hm z => y2 (nodup_get hr1.nd z1 z ▸ hm)⟩
     have x : Ex ρ1 h1 H1 ρ1 (kill h1 L) H1 := ⟨⟨[], by simp⟩, fun b o e n => ⟨e, fun z => n (live z).1⟩, fun _ _ z => z, fun _ _ _ z => z⟩
     have hr2 : HR (ct N X) Z0 ρ1 (kill h1 L) H1 := by
      refine ⟨by rw [kill_len]; exact hr1.len, hr1.nd, fun n o b z1 z2 d => ?_, hr1.zd, hr1.tr, hr1.dj⟩
      exact OR_ex (hr1.ob n o b (kill_get z1 d).1 z2 d) x fun u z => z
     refine q ρ1 H1 v (ex.trans x) hr2 ?_
     refine fz_gone hr1 (fun a z => z.imp (fun z => (live z).1) id) 20 (.loc l) v w e2 (fun m hm a ea z => ?_) rv
     rcases z with z | z
     ·rw [hL] at hm
      exact (live z).2 m hm ea
     ·exact hr1.dj a (List.mem_of_getElem? ea) z
def rShow (C : Ct) : List V -> Hp -> VK -> Prop := fun xs H Q => ∃ (v : V) (w : W) (Z : Addr -> Prop), xs = [v] ∧ reprOkE w = true ∧ VR C H Z w v ∧ Q (.str (toE w).shown) H
theorem call_show {k : Nat} (hr : RoomG k X.A) : CallR X (.builtin "repr") (rShow (ct N X)) := by
 intro pins s σ H xs us Q I r ⟨v, w, Z, ex, ok, rv, q⟩
 subst ex
 obtain ⟨u, rfl, ru⟩ := vals1 r
 exact repr_any hr I ok rv ru fun s' t I' => ⟨.str (toE w).shown, H, I', ⟨t, rfl⟩, q⟩
variable {x y : Expr} {ix iy : E} {k : Nat} {p1 p2 q1 q2 pos : Pos}
def tRe (b : Bool) (tx ty : TE) (C : Ct) (Qk : Bool -> Hp -> Prop) (σ : Sg) (H : Hp) : Prop := tx σ H fun v1 H1 => ∃ w Z1, reprOkE w = true ∧ VR C H1 Z1 w v1 ∧ ty σ H1 fun v2 H2 => ∃ Z2, VR C H2 Z2 w v2 ∧ Qk b H2
theorem re_of {b : Bool} {σ : Sg} {H : Hp} {Q : VK} (q : tEv (ct N X) (ev cl call (.reprEq b ix iy)) σ H Q) : tRe b (tEv (ct N X) (ev cl call ix)) (tEv (ct N X) (ev cl call iy)) (ct N X) (fun b H => Q (.bl b) H) σ H := by
 obtain ⟨Z0, ρ, h, env, hr, er, q⟩ := q
 unfold ev at q
 cases e1 : ev cl call ix env h with
 | ex c v => rw [e1] at q; exact q.elim
 | no => rw [e1] at q; exact q.elim
 | ok r1 h1 =>
  rw [e1] at q
  dsimp only at q
  cases f1 : fz h1 0 20 r1 with
  | none => rw [f1] at q; exact q.elim
  | some w1 =>
   rw [f1] at q
   dsimp only at q
   refine tEv.bind hr er e1 fun H1 ρ1 v1 n1 rr1 => ?_
   cases e2 : ev cl call iy env h1 with
   | ex c v => rw [e2] at q; exact q.elim
   | no => rw [e2] at q; exact q.elim
   | ok r2 h2 =>
    rw [e2] at q
    dsimp only at q
    cases f2 : fz h2 0 20 r2 with
    | none => rw [f2] at q; exact q.elim
    | some w2 =>
     rw [f2] at q
     dsimp only at q
     split at q
     case isFalse => exact q.elim
     rename_i hs
     obtain ⟨hs, ok⟩ := and2 hs
     have hs := sameW_eq _ _ hs
     subst hs
     refine ⟨w1, fun _ => False, ok, fz_ok n1.hr (fun a z => z.elim) 20 r1 v1 w1 f1 rr1, ?_⟩
     refine tEv.bind n1.hr n1.er e2 fun H2 ρ2 v2 n2 rr2 => ?_
     exact ⟨fun _ => False, fz_ok n2.hr (fun a z => z.elim) 20 r2 v2 w1 f2 rr2, q ρ2 H2 _ (n1.ex.trans n2.ex) n2.hr (show VR _ _ _ _ _ from vr_bl_i)⟩
theorem pe_show (hr : RoomG k X.A) (hm : X.mg "repr" = none) (px : PE X x (tEv (ct N X) (ev cl call ix))) (hg : Gl X "repr" := by rfl)
  (he : starEach [x] X.env = (false, eval x X.env) :: starEach [] X.env := by rfl) (hpl : (backTo p2 (starEach [] X.env)).any (·.1) = false := by rfl) :
  PE X (.Call (.Name "repr" p1) [x] [] p2) (fun σ H Q => tEv (ct N X) (ev cl call ix) σ H fun v H1 => rShow (ct N X) [v] H1 Q) :=
 PE.imp (pe_callB (call_show (N := N) hr) hg hm rfl (pa_cons px pa_nil he) (by decide) (by decide) he hpl) fun σ H Q q => q
theorem P.reprEq (hr : RoomG k X.A) (hm : X.mg "repr" = none) (px : PE X x (tEv (ct N X) (ev cl call ix))) (py : PE X y (tEv (ct N X) (ev cl call iy))) (hg : Gl X "repr" := by rfl)
  (he : starEach [x] X.env = (false, eval x X.env) :: starEach [] X.env := by rfl) (he2 : starEach [y] X.env = (false, eval y X.env) :: starEach [] X.env := by rfl)
  (hpl : (backTo p2 (starEach [] X.env)).any (·.1) = false := by rfl) (hpl2 : (backTo q2 (starEach [] X.env)).any (·.1) = false := by rfl) (hk : behindInMarks .Eq (.Call (.Name "repr" q1) [y] [] q2) = false := by first | exact nomark _ | with_unfolding_all rfl) :
  PE X (.Compare (.Call (.Name "repr" p1) [x] [] p2) [.Eq] [.Call (.Name "repr" q1) [y] [] q2] pos) (tEv (ct N X) (ev cl call (.reprEq true ix iy))) :=
 PE.imp (pe_cmpR L2.op_eq (pe_show hr hm px hg he hpl) (pe_show hr hm py hg he2 hpl2) hk) fun σ H Q q => by
  obtain ⟨Z0, ρ, h, env, hr, er, q⟩ := re_of q
  refine ⟨Z0, ρ, h, env, hr, er, EQ.imp (fun v1 H1 ⟨w, Z1, ok, rv, q⟩ => ⟨v1, w, Z1, rfl, ok, rv, ?_⟩) q⟩
  obtain ⟨Z0, ρ, h, env, hr, er, q⟩ := q
  refine ⟨Z0, ρ, h, env, hr, er, EQ.imp (fun v2 H2 ⟨Z2, rv, q⟩ => ⟨v2, w, Z2, rfl, ok, rv, ?_⟩) q⟩
  exact ⟨rfl, by rw [decide_eq_true rfl]; exact q⟩
theorem P.breprNe (hr : RoomG k X.A) (hm : X.mg "repr" = none) (px : PE X x (tEv (ct N X) (ev cl call ix))) (py : PE X y (tEv (ct N X) (ev cl call iy))) (hg : Gl X "repr" := by rfl)
  (he : starEach [x] X.env = (false, eval x X.env) :: starEach [] X.env := by rfl) (he2 : starEach [y] X.env = (false, eval y X.env) :: starEach [] X.env := by rfl)
  (hpl : (backTo p2 (starEach [] X.env)).any (·.1) = false := by rfl) (hpl2 : (backTo q2 (starEach [] X.env)).any (·.1) = false := by rfl) (hk : behindInMarks .NotEq (.Call (.Name "repr" q1) [y] [] q2) = false := by first | exact nomark _ | with_unfolding_all rfl) :
  PT X (.Compare (.Call (.Name "repr" p1) [x] [] p2) [.NotEq] [.Call (.Name "repr" q1) [y] [] q2] pos) (tEb (ct N X) (ev cl call (.reprEq false ix iy))) :=
 PT.imp (pt_cmpR L2.op_ne (pe_show hr hm px hg he hpl) (pe_show hr hm py hg he2 hpl2) hk) fun σ H Q ⟨Z0, ρ, h, env, hr, er, q⟩ => by
  obtain ⟨b', h', e1, q⟩ := q.shape
  have q9 : tEv (ct N X) (ev cl call (.reprEq false ix iy)) σ H fun v H1 => ∃ b, v = .bl b ∧ Q b H1 := ⟨Z0, ρ, h, env, hr, er, by rw [e1]; exact fun ρ' H' v ex hr' rr => ⟨b', rr_bl rr, q ρ' H' ex hr'⟩⟩
  obtain ⟨Z0, ρ, h, env, hr, er, q⟩ := re_of q9
  refine ⟨Z0, ρ, h, env, hr, er, EQ.imp (fun v1 H1 ⟨w, Z1, ok, rv, q⟩ => ⟨v1, w, Z1, rfl, ok, rv, ?_⟩) q⟩
  obtain ⟨Z0, ρ, h, env, hr, er, q⟩ := q
  refine ⟨Z0, ρ, h, env, hr, er, EQ.imp (fun v2 H2 ⟨Z2, rv, q⟩ => ⟨v2, w, Z2, rfl, ok, rv, ?_⟩) q⟩
  obtain ⟨b, eb, q⟩ := q
  cases eb
  exact ⟨rfl, by rw [decide_eq_true rfl]; exact ⟨_, rfl, q⟩⟩
end
end Tf
namespace Tf
open PySem L2 PyProof.Rows
structure ClsX (P : Program) (K : PySem.W.Frag) (mg : Str -> Option Value) (C : Nat -> Addr) : Prop where
 sup : mg "super" = none
 top : (P.main.scope.names.lookup ("super" : Str)).isSome = false
 m0 : mg "TiedFirstsError" = some (.ref (C 0))
 m1 : mg "InvalidScheme" = some (.ref (C 1))
 m2 : mg "InvalidFact" = some (.ref (C 2))
 m3 : mg "InvalidColumns" = some (.ref (C 3))
 m4 : mg "InvalidTable" = some (.ref (C 4))
 m5 : mg "InvalidQuestion" = some (.ref (C 5))
 m6 : mg "InvalidPlace" = some (.ref (C 6))
 xc : ∀ c, 0 < c -> c < 7 -> ∃ fI cda cc qual fd, XCls P K (C c) fI cda cc qual fd
 kit : ∀ c, 0 < c -> c < 7 -> XKit K (C c)
 t0 : ∀ c, 0 < c -> c < 7 -> PySem.W.kitOne K (.ref (C c)) (.ref (C 0)) = some true
 tv : ∀ c, 0 < c -> c < 7 -> PySem.W.kitOne K (.ref (C c)) (.type "ValueError") = some true
 tt : ∀ c, 0 < c -> c < 7 -> ∀ d, 0 < d -> d < 7 -> PySem.W.kitOne K (.ref (C c)) (.ref (C d)) = some (c == d)
def xsOf (C : Nat -> Addr) : List (Nat × Addr) := [(0, C 0), (1, C 1), (2, C 2), (3, C 3), (4, C 4), (5, C 5), (6, C 6)]
theorem nm_x {cs : List (Nat × Addr)} {fs : List Str} {C : Nat -> Addr} (h : ∀ c, c < 7 -> nmOwn cs c = false) : ∀ c, c < 7 -> (nmOf cs fs (xsOf C)).cls c = C c := fun c hc => by
 show (if nmOwn cs c = true then nmCls cs c else nmCls (xsOf C) c) = _
 rw [h c hc, if_neg (by decide)]
 have : c = 0 ∨ c = 1 ∨ c = 2 ∨ c = 3 ∨ c = 4 ∨ c = 5 ∨ c = 6 := by omega
 rcases this with rfl | rfl | rfl | rfl | rfl | rfl | rfl <;> rfl
section
variable {P : Program} {K : PySem.W.Frag} {mg : Str -> Option Value} {C : Nat -> Addr} {cs : List (Nat × Addr)} {fs : List Str}
theorem ClsX.kn (T : ClsX P K mg C) (h : ∀ c, c < 7 -> nmOwn cs c = false) : KnX P K mg (nmOf cs fs (xsOf C)) := ⟨T.sup, T.top, fun c c0 c7 => by rw [nm_x h c c7]; exact T.xc c c0 c7⟩
theorem ClsX.is0 (T : ClsX P K mg C) (h : ∀ c, c < 7 -> nmOwn cs c = false) : XIs K (nmOf cs fs (xsOf C)) (.ref (C 0)) [1, 2, 3, 4, 5, 6] := fun c c0 c7 => by
 rw [nm_x h c c7]
 refine ⟨T.kit c c0 c7, ?_⟩
 have : c = 1 ∨ c = 2 ∨ c = 3 ∨ c = 4 ∨ c = 5 ∨ c = 6 := by omega
 rw [T.t0 c c0 c7]
 rcases this with rfl | rfl | rfl | rfl | rfl | rfl <;> rfl
theorem ClsX.isv (T : ClsX P K mg C) (h : ∀ c, c < 7 -> nmOwn cs c = false) : XIs K (nmOf cs fs (xsOf C)) (.type "ValueError") [1, 2, 3, 4, 5, 6] := fun c c0 c7 => by
 rw [nm_x h c c7]
 refine ⟨T.kit c c0 c7, ?_⟩
 have : c = 1 ∨ c = 2 ∨ c = 3 ∨ c = 4 ∨ c = 5 ∨ c = 6 := by omega
 rw [T.tv c c0 c7]
 rcases this with rfl | rfl | rfl | rfl | rfl | rfl <;> rfl
theorem ClsX.ist (T : ClsX P K mg C) (h : ∀ c, c < 7 -> nmOwn cs c = false) {d : Nat} (d0 : 0 < d) (d7 : d < 7) : XIs K (nmOf cs fs (xsOf C)) (.ref (C d)) [d] := fun c c0 c7 => by
 rw [nm_x h c c7]
 refine ⟨T.kit c c0 c7, ?_⟩
 rw [T.tt c c0 c7 d d0 d7]
 congr 1
 simp [List.contains, List.elem]
 cases h : c == d <;> simp_all
end
end Tf
namespace Tf
open PySem L2 PyProof.Rows
def top (i : Nat) : Stmt := PySem.Challenge.pw_tiedfirsts_k01_errors_made.main.body.getD i (.Pass ⟨0, 0, 0, 0⟩)
def f150 : Fd := ⟨2, 3, [.asg (.n 2) (.c (.int 0)), .ifs (.op .lt [(.v 1), (.op .len [(.v 0)])]) [.asg (.n 2) (.op .idx [(.v 0), (.v 1)])] [], .ret (.al (.op .lst [(.op .mod [(.op .int [(.op .max2 [(.op .sub [(.v 2), (.op .pow [(.c (.int 10)), (.c (.int 18))])]), (.c (.int 0))])]), (.op .pow [(.op .pow [(.c (.int 10)), (.c (.int 40))]), (.c (.int 10))])]), (.op .mod [(.op .int [(.op .add [(.v 2), (.op .mul [(.c (.int 7919)), (.v 1)])])]), (.c (.int 2147483629))]), (.c (.int 0))]))], []⟩
def f151 : Fd := ⟨2, 5, [.ifs (.op .gt [(.op .idx [(.v 0), (.c (.int 0))]), (.c (.int 0))]) [.asg (.n 4) (.op .mod [(.op .int [(.op .idx [(.v 0), (.c (.int 0))])]), (.v 1)]), .sub (.v 0) (.c (.int 0)) (.op .fdiv [(.op .idx [(.v 0), (.c (.int 0))]), (.v 1)]), .ret (.v 4)] [], .asg (.n 2) (.op .add [(.op .idx [(.v 0), (.c (.int 2))]), (.c (.int 1))]), .sub (.v 0) (.c (.int 2)) (.v 2), .asg (.n 3) (.op .mod [(.op .int [(.op .mul [(.op .add [(.op .idx [(.v 0), (.c (.int 1))]), (.op .mul [(.c (.int 104729)), (.v 2)])]), (.op .add [(.op .mul [(.v 2), (.v 2)]), (.c (.int 7919))])])]), (.c (.int 2147483629))]), .asg (.n 3) (.op .mod [(.op .int [(.op .add [(.op .mul [(.v 3), (.v 3)]), (.v 2)])]), (.c (.int 2147483587))]), .ret (.op .mod [(.op .fdiv [(.op .mod [(.op .int [(.op .mul [(.v 3), (.c (.int 48271))])]), (.c (.int 2147483647))]), (.c (.int 64))]), (.v 1)])], []⟩
def f152 : Fd := ⟨2, 2, [.ret (.op .idx [(.v 1), (.call .pu 151 [(.v 0), (.op .len [(.v 1)])])])], []⟩
def f153 : Fd := ⟨1, 3, [.asg (.n 1) (.op .lst [(.isX [1] (.v 0)), (.isX [2] (.v 0))]), .asg (.n 1) (.op .add [(.v 1), (.op .lst [(.isX [3] (.v 0))])]), .asg (.n 1) (.op .add [(.v 1), (.op .lst [(.isX [4] (.v 0)), (.isX [5] (.v 0))])]), .asg (.n 1) (.op .add [(.v 1), (.op .lst [(.isX [6] (.v 0))])]), .ifs (.or (.op .not [(.isX [1, 2, 3, 4, 5, 6] (.v 0))]) (.op .not [(.isX [1, 2, 3, 4, 5, 6] (.v 0))])) [.ret (.op .lst [])] [], .ret (.lc (.n 2) .range [(.op .len [(.v 1)])] [(.op .idx [(.v 1), (.v 2)])] (.v 2))], []⟩
def f154 : Fd := ⟨2, 5, [.asg (.n 2) (.lcO (.n 3) (.v 0) [] (.excV (.v 3))), .ifs (.reprEq false (.v 2) (.repL (.v 1) (.op .len [(.v 0)]))) [.ret (.c (.bl false))] [], .ret (.op .eq [(.frE (.lcX (.n 3) (.v 0) [] (.call .hp 153 [(.v 3)]))), (.lc (.n 4) .range [(.op .len [(.v 0)])] [] (.op .lst [(.v 4)]))])], []⟩
def f155 : Fd := ⟨1, 7, [.asg (.n 1) (.call .kp 150 [(.v 0), (.c (.int 0))]), .asg (.n 2) (.op .add [(.op .mul [(.call .pu 151 [(.v 1), (.op .pow [(.c (.int 10)), (.c (.int 6))])]), (.op .pow [(.c (.int 10)), (.c (.int 33))])]), (.call .pu 151 [(.v 1), (.op .pow [(.c (.int 10)), (.c (.int 6))])])]), .asg (.n 3) (.call .hp 152 [(.v 1), (.lstO [(.c .non), (.c (.bl true)), (.v 2), (.op .sub [(.c (.int 0)), (.v 2)]), (.op .mulS [(.c (.str [120])), (.call .pu 151 [(.v 1), (.c (.int 9))])]), (.op .tup []), (.al (.op .lst [(.v 2)])), (.lstO [(.al (.op .lst [])), (.al (.op .lst [(.c (.str [97]))]))]), (.op .dct0 [])])]), .asg (.n 4) (.lstO [(.mkX 1 (.v 3)), (.mkX 2 (.v 3)), (.mkX 3 (.v 3)), (.mkX 4 (.v 3))]), .asg (.n 4) (.op .catO [(.v 4), (.lstO [(.mkX 5 (.v 3)), (.mkX 6 (.v 3))])]), .asg (.n 5) (.lstO [(.mkX 1 (.v 3)), (.mkX 2 (.v 3)), (.mkX 3 (.v 3))]), .asg (.n 5) (.op .catO [(.v 5), (.lstO [(.mkX 4 (.v 3))])]), .asg (.n 5) (.op .catO [(.v 5), (.lstO [(.mkX 5 (.v 3)), (.mkX 6 (.v 3))])]), .asg (.n 6) (.lstO [(.mkX 1 (.c .non)), (.mkX 2 (.c .non)), (.mkX 3 (.c .non)), (.mkX 4 (.c .non)), (.mkX 5 (.c .non))]), .asg (.n 6) (.op .catO [(.v 6), (.lstO [(.mkX 6 (.c .non))])]), .ifs (.or (.op .not [(.call .hp 154 [(.v 4), (.v 3)])]) (.or (.op .not [(.call .hp 154 [(.v 5), (.v 3)])]) (.op .not [(.call .hp 154 [(.v 6), (.c .non)])]))) [.ret (.c (.bl false))] [], .ifs (.op (.isinst [.list]) [(.v 3)]) [.exp (.mut .append 3 [(.c (.str [109, 111, 114, 101]))]), .ret (.and (.call .hp 154 [(.v 4), (.v 3)]) (.call .hp 154 [(.v 5), (.v 3)]))] [], .ret (.c (.bl true))], []⟩
def f0 : Fd := deadFd
def f1 : Fd := deadFd
def f2 : Fd := deadFd
def f3 : Fd := deadFd
def f4 : Fd := deadFd
def f5 : Fd := deadFd
def f6 : Fd := deadFd
def f7 : Fd := deadFd
def f8 : Fd := deadFd
def f9 : Fd := deadFd
def f10 : Fd := deadFd
def f13 : Fd := deadFd
def f20 : Fd := deadFd
def f21 : Fd := deadFd
def f22 : Fd := deadFd
def f23 : Fd := deadFd
def f24 : Fd := deadFd
def fds : List Fd := [deadFd, deadFd, deadFd, deadFd, deadFd, deadFd, deadFd, deadFd, deadFd, deadFd, deadFd, deadFd, deadFd, deadFd, deadFd, deadFd, deadFd, deadFd, deadFd, deadFd, deadFd, deadFd, deadFd, deadFd, deadFd, deadFd, deadFd, deadFd, deadFd, deadFd, deadFd, deadFd, deadFd, deadFd, deadFd, deadFd, deadFd, deadFd, deadFd, deadFd, deadFd, deadFd, deadFd, deadFd, deadFd, deadFd, deadFd, deadFd, deadFd, deadFd, deadFd, deadFd, deadFd, deadFd, deadFd, deadFd, deadFd, deadFd, deadFd, deadFd, deadFd, deadFd, deadFd, deadFd, deadFd, deadFd, deadFd, deadFd, deadFd, deadFd, deadFd, deadFd, deadFd, deadFd, deadFd, deadFd, deadFd, deadFd, deadFd, deadFd, deadFd, deadFd, deadFd, deadFd, deadFd, deadFd, deadFd, deadFd, deadFd, deadFd, deadFd, deadFd, deadFd, deadFd, deadFd, deadFd, deadFd, deadFd, deadFd, deadFd, deadFd, deadFd, deadFd, deadFd, deadFd, deadFd, deadFd, deadFd, deadFd, deadFd, deadFd, deadFd, deadFd, deadFd, deadFd, deadFd, deadFd, deadFd, deadFd, deadFd, deadFd, deadFd, deadFd, deadFd, deadFd, deadFd, deadFd, deadFd, deadFd, deadFd, deadFd, deadFd, deadFd, deadFd, deadFd, deadFd, deadFd, deadFd, deadFd, deadFd, deadFd, deadFd, deadFd, deadFd, deadFd, deadFd, deadFd, deadFd, deadFd, deadFd, f150, f151, f152, f153, f154, deadFd]
def cls : Tf.Cls := { props := [], meths := [], eqs := [] }
abbrev s150 : Stmt := top 9
abbrev s151 : Stmt := top 10
abbrev s152 : Stmt := top 11
abbrev s153 : Stmt := top 12
abbrev s154 : Stmt := top 13
abbrev s155 : Stmt := top 14
end Tf
namespace Tf
open PySem L2 PyProof.Rows
theorem top_of {K : PySem.W.Frag} {h : Heap} {mg : Str -> Option Value} {x : Str} {st : Stmt} {ps : List Str} {fd : FuncData} (X : K.In h) (G : h.Ns mainGlobals mg) (gl : (He.Fa.glo x).ok K = true)
  (F : FunD K x x (defArgs st) (defBody st) (defScope st) [] [] (He.fAd K (x, none)) fd)
  (hb : ∀ (kV doc pm : Value) (an : Option Addr) (cdv ct : Value) (us : List Value), us.length = ps.length -> bindArgs (PySem.W.fnOf x x (defArgs st) (defBody st) (defScope st) .none kV doc pm an cdv ct) ⟨us, []⟩ = pure (ps.zip us)) :
  TopDef K mg x st ps := by
 obtain ⟨oc, od, dV, kV, doc, pm, an, cdv, ct, osl, e, lk, hcd, hd, _⟩ := F.ex
 have hV : dV = .none := by
  rcases hd with ⟨_, z⟩ | ⟨z, _⟩ <;> simp_all
 subst hV
 subst e
 have Fn : Fun K x x st (He.ga K x) (PySem.W.fnOf x x (defArgs st) (defBody st) (defScope st) .none kV doc pm an cdv ct) := ⟨⟨oc, od, kV, doc, pm, an, cdv, ct, osl, rfl, lk, hcd⟩, F.kp⟩
 exact ⟨_, _, He.glo_ok X G gl, Fn, Fn.binds hb, F.kp, fun s us hl => .of_eq (hb _ _ _ _ _ _ us hl)⟩
theorem walkX {l : PySem.W.OpenLaw} {q : Program} {loose : List Str} {XP : (Str -> Option Value) -> Heap -> Prop} {YP : World -> Heap -> Prop} {d : DefRec} {k : Nat} {x : Str} (hn : l.most = some 63) (hdf : d.params.defaults = []) (hr : Room k callerA)
  (F : ∀ (w : World) (mg : Str -> Option Value) (fa : Addr) (h : Heap), YP w h -> h.Ns mainGlobals mg -> mg d.name = some (.ref fa) -> ∃ K : PySem.W.Frag, K.In h ∧
   ∃ fd : FuncData, (∀ (s : Shared) (u : Value), BindsTo s fd ⟨[u], []⟩ [(x, u)]) ∧ ∀ base : Heap, K.In base -> base.Ns mainGlobals mg -> FnG l.prog w K mg base CX0 k fa fd [x] (spLaw K)) :
  PySem.W.WalkO q loose XP YP l.row.toRowW d [] (fun f vs => PySem.call f vs) := by
 refine Att.attach_call hn hdf fun w s0 s mg mb fa o pm cd doc a vs ns G Y ho hd hcd hmg hobj hints hlen hg => ?_
 obtain ⟨K, kin, fd, hb, hF⟩ := F w mg fa _ Y G.T.g hmg
 exact call_law kin G.T.g G.T.b G.T.builtins G.T.nolimit hg hobj hints hlen ⟨hr, rfl⟩ hF hb
def btB (K : PySem.W.Frag) (u : Value) (ts : List Ty) : Bool := decide (PySem.W.kitOne K (.type "NoneType") u = some (ts.any fun t => isInst t .non)) && (decide (PySem.W.kitOne K (.type "bool") u = some (ts.any fun t => isInst t (.bl true))) && (decide (PySem.W.kitOne K (.type "int") u = some (ts.any fun t => isInst t (.int 0))) && (decide (PySem.W.kitOne K (.type "str") u = some (ts.any fun t => isInst t (.str []))) && (decide (PySem.W.kitOne K (.type "tuple") u = some (ts.any fun t => isInst t (.tup []))) && (decide (PySem.W.kitOne K (.type "list") u = some (ts.any fun t => isInst t (.lst []))) && decide (PySem.W.kitOne K (.type "dict") u = some (ts.any fun t => isInst t (.dct [] []))))))))
theorem btB_ok {K : PySem.W.Frag} {u : Value} {ts : List Ty} (h : btB K u ts = true) : BtOk K u ts := by
 unfold btB at h
 simp only [Bool.and_eq_true, decide_eq_true_eq] at h
 exact ⟨h.1, h.2.1, h.2.2.1, h.2.2.2.1, h.2.2.2.2.1, h.2.2.2.2.2.1, h.2.2.2.2.2.2⟩
def gB (K : PySem.W.Frag) : Bool := decide (PySem.W.specialIn K (.builtin "object.__class__") "__get__" = some (some (.builtin "getset_descriptor.__get__"))) && decide (PySem.W.takesIn K (.builtin "object.__class__") = some true)
theorem gB_ok {K : PySem.W.Frag} (h : gB K = true) : PySem.W.specialIn K (.builtin "object.__class__") "__get__" = some (some (.builtin "getset_descriptor.__get__")) ∧ PySem.W.takesIn K (.builtin "object.__class__") = some true := by
 unfold gB at h
 simp_all
def AllN : Nat -> (List Value -> Prop) -> Prop
 | 0, P => P []
 | n + 1, P => ∀ a, AllN n fun l => P (a :: l)
theorem AllN.on : ∀ {n : Nat} {P : List Value -> Prop}, AllN n P -> ∀ us : List Value, us.length = n -> P us
 | 0, _, h, [], _ => h
 | _ + 1, _, h, a :: us, e => AllN.on (h a) us (Nat.succ.inj e)
theorem top_at {fa : List He.Fa} {fn : List He.DefD} {K : W.Frag} {h : Heap} {mg : Str -> Option Value} (D : He.SaysD fa fn K) (X : K.In h) (G : h.Ns mainGlobals mg) (i j : Nat) {x : Str} {st : Stmt} {ps : List Str}
  (hd : fn[i]? = some ⟨(x, none), x, x, defArgs st, defBody st, defScope st, [], []⟩ := by rfl) (hf : fa[j]? = some (.glo x) := by rfl)
  (hb : ∀ (kV doc pm : Value) (an : Option Addr) (cdv ct : Value), AllN ps.length fun us => bindArgs (PySem.W.fnOf x x (defArgs st) (defBody st) (defScope st) .none kV doc pm an cdv ct) ⟨us, []⟩ = pure (ps.zip us) := by (repeat intro _); rfl) : TopDef K mg x st ps := by
 obtain ⟨fd, F⟩ := D.def_ i hd
 exact top_of X G (D.fact j hf) F fun _ _ _ _ _ _ us hl => (hb _ _ _ _ _ _).on us hl
end Tf
namespace Hy
open PySem PySem.W HandSHeadRun
def obY (as : List Addr) (fa : List He.Fa) (fn : List He.DefD) (ex : Frag -> Bool) (g : Addr -> Option Obj) : He.AlX := (He.obsT fa fn [] (He.frT g as), ex (He.frT g as))
def hookY (as : List Addr) (fa : List He.Fa) (fn : List He.DefD) (ex : Frag -> Bool) : Hook where
 α := He.AlX
 obs := fun s => obY as fa fn ex s.heap.get?
 val := fun w => He.valX fn [] w
 says := fun w h => ∃ K : Frag, K.In h ∧ He.SaysX fa fn [] [] ex w h K
 of := fun w s e => ⟨_, He.frT_in, ⟨congrArg (fun z : He.AlX => z.1) e, congrArg (fun z : He.AlX => z.2) e, fun p hp => absurd hp List.not_mem_nil, fun p hp => absurd hp List.not_mem_nil, fun p hp => absurd hp List.not_mem_nil⟩⟩
 keeps := fun _ _ _ ⟨K, hK, c⟩ k => ⟨K, Frag.In.keeps hK k, ⟨c.t, c.more, c.hd, c.out, fun p hp => k _ _ (c.empty p hp)⟩⟩
theorem obY_eq {as : List Addr} {fa : List He.Fa} {fn : List He.DefD} {ex : Frag -> Bool} {g : Addr -> Option Obj} {s : Shared} (h : ∀ a, g a = s.heap.get? a) : obY as fa fn ex g = (hookY as fa fn ex).obs s := by
 have e : g = s.heap.get? := funext h
 rw [e] <;> rfl
noncomputable abbrev Ey (r : OpenRow) (M : Nat) (w : World) (os : OsState) : Option SharedT := endF (stepQ (denQ tabQ) r.prog w) M r.prog w os
noncomputable abbrev sqY (r : OpenRow) (q : Program) (loose : List Str) (s : SharedT) := seenQ q loose (importedModules r.prog.main.body) (fun s => xlAt q [] s && recOk r.toRowW.records s) s.abs
def RunA (r : OpenRow) (q : Program) (M : Nat) (loose : List Str) (w : World) : Prop := ∀ os : OsState,
 (Ey r M w os).map (fun s => (looksF r.prog (boot_heap w.params) s.abs, (sqY r q loose s).1, (sqY r q loose s).2.1, (sqY r q loose s).2.2.1)) = some (true, (openGood q loose).1, (openGood q loose).2.1, (openGood q loose).2.2.1)
def RunB (r : OpenRow) (q : Program) (M : Nat) (loose : List Str) (w : World) : Prop := ∀ os : OsState, (Ey r M w os).map (fun s => (sqY r q loose s).2.2.2) = some (openGood q loose).2.2.2
def RunC (r : OpenRow) (H : Hook) (ob : SharedT -> H.α) (M : Nat) (w : World) : Prop := ∀ os : OsState, (Ey r M w os).map ob = some (H.val w)
theorem run3 {r : OpenRow} {q : Program} {H : Hook} {ob : SharedT -> H.α} {M : Nat} {loose : List Str} {w : World} (hA : RunA r q M loose w) (hB : RunB r q M loose w) (hC : RunC r H ob M w) : RunEq r q H ob M loose w := by
 intro os
 have a := hA os
 have b := hB os
 have c := hC os
 unfold Ey at a b c
 cases e : endF (stepQ (denQ tabQ) r.prog w) M r.prog w os with
 | none => simp_all
 | some s =>
  rw [e] at a b c
  have b := Option.some.inj b
  have a2 : (sqY r q loose s).1 = (openGood q loose).1 := by simp_all
  have a3 : (sqY r q loose s).2.1 = (openGood q loose).2.1 := by simp_all
  have a4 : (sqY r q loose s).2.2.1 = (openGood q loose).2.2.1 := by simp_all
  have sq : sqY r q loose s = openGood q loose := Prod.ext a2 (Prod.ext a3 (Prod.ext a4 b))
  simp_all
def RunP (r : OpenRow) {β : Type} (f : SharedT -> β) (v : β) (M : Nat) (w : World) : Prop := ∀ os : OsState, (Ey r M w os).map f = some v
theorem RunP.at {r : OpenRow} {β : Type} {f : SharedT -> β} {v : β} {M : Nat} {w : World} (h : RunP r f v M w) (os : OsState) {s : SharedT} (e : Ey r M w os = some s) : f s = v := by
 have := h os
 simp_all
theorem RunP.some {r : OpenRow} {β : Type} {f : SharedT -> β} {v : β} {M : Nat} {w : World} (h : RunP r f v M w) (os : OsState) : ∃ s, Ey r M w os = some s := by
 have := h os
 cases e : Ey r M w os <;> simp_all
noncomputable def lkA (r : OpenRow) (w : World) (s : SharedT) : Bool := looksF r.prog (boot_heap w.params) s.abs
noncomputable def sqA (r : OpenRow) (q : Program) (loose : List Str) (s : SharedT) := ((sqY r q loose s).1, (sqY r q loose s).2.1, (sqY r q loose s).2.2.1)
noncomputable def sqV (q : Program) (loose : List Str) := ((openGood q loose).1, (openGood q loose).2.1, (openGood q loose).2.2.1)
theorem runA_parts {r : OpenRow} {q : Program} {M : Nat} {loose : List Str} {w : World} (h1 : RunP r (fun s => lkA r w s) true M w) (h2 : RunP r (fun s => sqA r q loose s) (sqV q loose) M w) : RunA r q M loose w := by
 intro os
 obtain ⟨s, e⟩ := h1.some os
 have a := h1.at os e
 have b := h2.at os e
 rw [e]
 show some (_, _, _, _) = some (_, _, _, _)
 have b1 : (sqY r q loose s).1 = (openGood q loose).1 := congrArg (fun z => z.1) b
 have b2 : (sqY r q loose s).2.1 = (openGood q loose).2.1 := congrArg (fun z => z.2.1) b
 have b3 : (sqY r q loose s).2.2.1 = (openGood q loose).2.2.1 := congrArg (fun z => z.2.2) b
 rw [b1, b2, b3, show looksF r.prog (boot_heap w.params) s.abs = true from a]
theorem runC_parts {r : OpenRow} {as : List Addr} {fa fa1 fa2 : List He.Fa} {fn : List He.DefD} {ex : Frag -> Bool} {ob : SharedT -> He.AlX} {M : Nat} {w : World} (ho : ∀ s, ob s = obY as fa fn ex (HandSHeadRun.getT s)) (ef : fa = fa1 ++ fa2)
  (ha : RunP r (fun s => fa1.all fun f => f.ok (He.frT (HandSHeadRun.getT s) as)) true M w) (hb : RunP r (fun s => fa2.all fun f => f.ok (He.frT (HandSHeadRun.getT s) as)) true M w)
  (hc : RunP r (fun s => fn.all fun d => d.ok (He.frT (HandSHeadRun.getT s) as)) true M w) (h2 : RunP r (fun s => (ob s).1.1.2) (He.valD fn).2 M w) (h3 : RunP r (fun s => (ob s).2) true M w) : RunC r (hookY as fa fn ex) ob M w := by
 intro os
 obtain ⟨s, e⟩ := ha.some os
 have a := ha.at os e
 have b := hb.at os e
 have c := hc.at os e
 have d := h2.at os e
 have g := h3.at os e
 rw [e]
 refine congrArg some (Prod.ext (Prod.ext (Prod.ext ?_ d) ?_) g)
 ·show (ob s).1.1.1 = true
  rw [ho s]
  show ((fa.all fun f => f.ok (He.frT (HandSHeadRun.getT s) as)) && fn.all fun d => d.ok (He.frT (HandSHeadRun.getT s) as)) = true
  rw [ef, List.all_append, show (fa1.all fun f => f.ok (He.frT (HandSHeadRun.getT s) as)) = true from a, show (fa2.all fun f => f.ok (He.frT (HandSHeadRun.getT s) as)) = true from b, show (fn.all fun d => d.ok (He.frT (HandSHeadRun.getT s) as)) = true from c]
  rfl
 ·show (ob s).1.2 = _
  rw [ho s]
  rfl
end Hy
namespace Hz
open PySem PySem.W HandSHeadRun L2
abbrev Pd := Str × Str × He.DefD
def gAd (K : Frag) (p : Pd) : Addr := match recIn K (He.ma K (He.ga K p.1) p.2.1) "property" with
 | some (.ref a :: _) => a
 | _ => 0
def fnP (K : Frag) (p : Pd) : He.FnW := match K.lookup (gAd K p) with
 | some ⟨_, _, .func fd, _⟩ => some (fd.name, fd.qualname, fd.params, fd.body, fd.scope, fd.globals, fd.closure, fd.builtins)
 | _ => none
def okP (K : Frag) (p : Pd) : Bool := He.eqO (findIn K (.ref (He.ga K p.1)) p.2.1) (some (some (.ref (He.ma K (He.ga K p.1) p.2.1)))) &&
 (He.eqO (specialIn K (.ref (He.ma K (He.ga K p.1) p.2.1)) "__get__") (some (some (.builtin "property.__get__"))) && (decide (takesIn K (.ref (He.ma K (He.ga K p.1) p.2.1)) = some true) &&
 ((match recIn K (He.ma K (He.ga K p.1) p.2.1) "property" with | some (.ref _ :: _) => true | _ => false) && (isFn K (.ref (gAd K p)) && (keepIn K (.ref (gAd K p)) && (match K.lookup (gAd K p) with
 | some ⟨_, _, .func fd, _⟩ => codeIn K fd.code p.2.2.qual && (He.dflB K fd.defaults [] && He.kwdB K fd.kwdefaults [])
 | _ => false))))))
theorem fun_at {K : Frag} {a : Addr} {d : He.DefD} (e : (match K.lookup a with
   | some ⟨_, _, .func fd, _⟩ => some (fd.name, fd.qualname, fd.params, fd.body, fd.scope, fd.globals, fd.closure, fd.builtins)
   | _ => none) = d.val) (kp : keepIn K (.ref a) = true) (c2 : (match K.lookup a with
   | some ⟨_, _, .func fd, _⟩ => codeIn K fd.code d.qual && (He.dflB K fd.defaults [] && He.kwdB K fd.kwdefaults [])
   | _ => false) = true) : ∃ fd, FunD K d.name d.qual d.params d.body d.scope [] [] a fd := by
 cases q : K.lookup a with
 | none => rw [q] at c2; cases c2
 | some o =>
  obtain ⟨oc, od, dt, osl⟩ := o
  rw [q] at c2 e
  cases dt with
  | func fd =>
   obtain ⟨n1, n2, n3, n4, n5, n6, n7, n8, n9, n10, n11, n12, n13, n14, n15⟩ := fd
   have e2 : (some (n1, n2, n3, n4, n5, n6, n7, n15) : He.FnW) = some (d.name, d.qual, d.params, .stmts d.body, d.scope, mainGlobals, [], builtinsNs) := e
   simp only [Option.some.injEq, Prod.mk.injEq] at e2
   obtain ⟨h1, h2, h3, h4, h5, h6, h7, h8⟩ := e2
   subst h1 h2 h3 h4 h5 h6 h7 h8
   have c3 : (codeIn K n13 d.qual && (He.dflB K n8 [] && He.kwdB K n9 [])) = true := c2
   obtain ⟨k1, k2⟩ := He.ba c3
   obtain ⟨k3, k4⟩ := He.ba k2
   exact ⟨_, ⟨oc, od, n8, n9, n10, n11, n12, n13, n14, osl, rfl, q, k1, He.dflB_ok k3, He.kwdB_ok k4⟩, kp⟩
  | _ => cases c2
theorem prop_ok {K : Frag} {p : Pd} (e : fnP K p = p.2.2.val) (c : okP K p = true) :
  findIn K (.ref (He.ga K p.1)) p.2.1 = some (some (.ref (He.ma K (He.ga K p.1) p.2.1))) ∧ specialIn K (.ref (He.ma K (He.ga K p.1) p.2.1)) "__get__" = some (some (.builtin "property.__get__")) ∧ takesIn K (.ref (He.ma K (He.ga K p.1) p.2.1)) = some true ∧
  (∃ rest, recIn K (He.ma K (He.ga K p.1) p.2.1) "property" = some (.ref (gAd K p) :: rest)) ∧ isFn K (.ref (gAd K p)) = true ∧ ∃ fd, FunD K p.2.2.name p.2.2.qual p.2.2.params p.2.2.body p.2.2.scope [] [] (gAd K p) fd := by
 obtain ⟨c1, c⟩ := He.ba c
 obtain ⟨c2, c⟩ := He.ba c
 obtain ⟨c3, c⟩ := He.ba c
 obtain ⟨c4, c⟩ := He.ba c
 obtain ⟨c5, c⟩ := He.ba c
 obtain ⟨c6, c7⟩ := He.ba c
 refine ⟨He.eqO_ok c1, He.eqO_ok c2, of_decide_eq_true c3, ?_, c5, ?_⟩
 ·have e4 : gAd K p = (match recIn K (He.ma K (He.ga K p.1) p.2.1) "property" with | some (.ref a :: _) => a | _ => 0) := rfl
  cases q : recIn K (He.ma K (He.ga K p.1) p.2.1) "property" with
  | none => simp_all
  | some l =>
   rw [q] at c4
   cases l with
   | nil => cases c4
   | cons v l =>
    cases v with
    | ref a => simp_all
    | _ => cases c4
 ·exact fun_at e c6 c7
def hookZ (as : List Addr) (fa : List He.Fa) (fn : List He.DefD) (ps : List Pd) (ex : Frag -> Bool) : Hook where
 α := He.AlX × List He.FnW
 obs := fun s => (Hy.obY as fa fn ex s.heap.get?, ps.map (fnP (He.frT s.heap.get? as)))
 val := fun w => (He.valX fn [] w, ps.map fun p => p.2.2.val)
 says := fun w h => ∃ K : Frag, K.In h ∧ He.SaysX fa fn [] [] ex w h K ∧ ps.map (fnP K) = ps.map fun p => p.2.2.val
 of := fun w s e => ⟨_, He.frT_in, ⟨congrArg (fun z : He.AlX × List He.FnW => z.1.1) e, congrArg (fun z : He.AlX × List He.FnW => z.1.2) e, fun p hp => absurd hp List.not_mem_nil, fun p hp => absurd hp List.not_mem_nil, fun p hp => absurd hp List.not_mem_nil⟩, congrArg (fun z : He.AlX × List He.FnW => z.2) e⟩
 keeps := fun _ _ _ ⟨K, hK, c, q⟩ k => ⟨K, Frag.In.keeps hK k, ⟨c.t, c.more, c.hd, c.out, fun p hp => k _ _ (c.empty p hp)⟩, q⟩
def obZ (as : List Addr) (fa : List He.Fa) (fn : List He.DefD) (ps : List Pd) (ex : Frag -> Bool) (g : Addr -> Option Obj) : He.AlX × List He.FnW := (Hy.obY as fa fn ex g, ps.map (fnP (He.frT g as)))
theorem obZ_eq {as : List Addr} {fa : List He.Fa} {fn : List He.DefD} {ps : List Pd} {ex : Frag -> Bool} {g : Addr -> Option Obj} {s : Shared} (h : ∀ a, g a = s.heap.get? a) : obZ as fa fn ps ex g = (hookZ as fa fn ps ex).obs s := by
 have e : g = s.heap.get? := funext h
 rw [e] <;> rfl
theorem runC_parts {r : OpenRow} {as : List Addr} {fa fa1 fa2 : List He.Fa} {fn : List He.DefD} {ps : List Pd} {ex : Frag -> Bool} {ob : SharedT -> He.AlX × List He.FnW} {M : Nat} {w : World} (ho : ∀ s, ob s = obZ as fa fn ps ex (HandSHeadRun.getT s)) (ef : fa = fa1 ++ fa2)
  (ha : Hy.RunP r (fun s => fa1.all fun f => f.ok (He.frT (HandSHeadRun.getT s) as)) true M w) (hb : Hy.RunP r (fun s => fa2.all fun f => f.ok (He.frT (HandSHeadRun.getT s) as)) true M w)
  (hc : Hy.RunP r (fun s => fn.all fun d => d.ok (He.frT (HandSHeadRun.getT s) as)) true M w) (h2 : Hy.RunP r (fun s => (ob s).1.1.1.2) (He.valD fn).2 M w) (h3 : Hy.RunP r (fun s => (ob s).1.2) true M w) (h4 : Hy.RunP r (fun s => (ob s).2) (ps.map fun p => p.2.2.val) M w) : Hy.RunC r (hookZ as fa fn ps ex) ob M w := by
 intro os
 obtain ⟨s, e⟩ := ha.some os
 have a := ha.at os e
 have b := hb.at os e
 have c := hc.at os e
 have d := h2.at os e
 have g := h3.at os e
 have l := h4.at os e
 rw [e]
 refine congrArg some (Prod.ext (Prod.ext (Prod.ext (Prod.ext ?_ d) ?_) g) l)
 ·rw [ho s]
  show ((fa.all fun f => f.ok (He.frT (HandSHeadRun.getT s) as)) && fn.all fun d => d.ok (He.frT (HandSHeadRun.getT s) as)) = true
  simp_all
 ·rw [ho s]
  rfl
end Hz
namespace Hv
open PySem PySem.W HandSHeadRun L2
structure Xd where
 cls : Str
 qual : Str
 st : Stmt
def fdOf (K : Frag) (a : Addr) : Option FuncData := match K.lookup a with
 | some ⟨_, _, .func fd, _⟩ => some fd
 | _ => none
def xC (K : Frag) (p : Xd) : Addr := He.ga K p.cls
def xF (K : Frag) (p : Xd) : Addr := He.ma K (xC K p) "__init__"
def cellOf : List (Str × Addr) -> Addr
 | [(_, c)] => c
 | _ => 0
def cellNm : List (Str × Addr) -> Bool
 | [(n, _)] => n == ("__class__" : Str)
 | _ => false
def refOf : Value -> Addr
 | .ref a => a
 | _ => 0
def isRef : Value -> Bool
 | .ref _ => true
 | _ => false
def xCell (K : Frag) (p : Xd) : Addr := match fdOf K (xF K p) with
 | some fd => cellOf fd.closure
 | none => 0
def xCode (K : Frag) (p : Xd) : Addr := match fdOf K (xF K p) with
 | some fd => refOf fd.code
 | none => 0
def fnX (K : Frag) (p : Xd) : He.FnW := match fdOf K (xF K p) with
 | some fd => some (fd.name, fd.qualname, fd.params, fd.body, fd.scope, fd.globals, [], fd.builtins)
 | none => none
def valX (p : Xd) : He.FnW := some ("__init__", p.qual, defArgs p.st, .stmts (defBody p.st), defScope p.st, mainGlobals, [], builtinsNs)
def clsB (K : Frag) (C : Addr) : Bool := match K.lookup C with
 | some ⟨.type "type", _, .cls cd, sl⟩ => (match cd.mro, sl.toList with
  | .ref C' :: bm, [_, _, _, _, some (.builtin n), _] => decide (C' = C) && (n == "ValueError.__new__" && (!cd.hasDel && (cd.hasDict && HandSPX.refsVE bm)))
  | _, _ => false)
 | _ => false
def isStr (x : Str) : Option Value -> Bool
 | some (.str y _) => x == y
 | _ => false
def fileB (Pr : Program) (K : Frag) (a : Addr) : Bool := match K.lookup a with
 | some ⟨_, _, .fields vs, _⟩ => isStr Pr.main.file vs[2]?
 | _ => false
def cellB (K : Frag) (a C : Addr) : Bool := match K.lookup a with
 | some ⟨_, _, .cell (some (.ref D)), _⟩ => decide (D = C)
 | _ => false
def dflB (K : Frag) : Value -> Bool
 | .ref T => (match K.lookup T with
  | some ⟨_, _, .seq its _, _⟩ => (match its.toList with
   | [.none] => true
   | _ => false)
  | _ => false)
 | _ => false
def fdB (K : Frag) (p : Xd) : Bool := match fdOf K (xF K p) with
 | some fd => cellNm fd.closure && (isRef fd.code && dflB K fd.defaults)
 | none => false
def okX (Pr : Program) (K : Frag) (p : Xd) : Bool :=
 He.eqO (nsIn K mainGlobals p.cls) (some (some (.ref (xC K p)))) && (He.eqO (nsIn K mainGlobals "super") (some none) && (clsB K (xC K p) && (decide (findIn K (.ref (xC K p)) "__setattr__" = some (some (.builtin "object.__setattr__"))) &&
 (decide (subIn K (.ref (xC K p)) (.type "BaseException") = some true) && (decide (typeIn K (.ref (xC K p)) = some (.type "type")) && (keepIn K (.ref (xC K p)) && (xfB K (xC K p) && (decide (findIn K (.ref (xC K p)) "__init__" = some (some (.ref (xF K p)))) &&
 (decide (typeIn K (.ref (xF K p)) = some (.type "function")) && (codeIn K (.ref (xCode K p)) p.qual && (fileB Pr K (xCode K p) && (cellB K (xCell K p) (xC K p) && (decide (ks_superIn K (xC K p) (xC K p) "__init__" = some (some (.builtin "ValueError.__init__"))) &&
 (decide (subIn K (.ref (xC K p)) (.type "ValueError") = some true) && (decide (mroIn K (xC K p) (.ref (xC K p)) = some true) && (decide (nsIn K cStatics "thirdparty.any" = some none) && (decide (findIn K (.ref (xC K p)) "value" = some none) && fdB K p)))))))))))))))))
theorem cls_of {K : Frag} {C : Addr} (c : clsB K C = true) : ∃ nm q N bs bm sn sub ab col dd k0 k1 k2 k3 k5, K.lookup C = some (excClassObj nm q C N bs bm true sn sub ab col dd k0 k1 k2 k3 k5 "ValueError.__new__") ∧ HandSPX.refsVE bm = true := by
 unfold clsB at c
 split at c
 ·rename_i dd cd sl ho
  split at c
  ·rename_i C' bm k0 k1 k2 k3 n k5 hm hs
   simp only [Bool.and_eq_true, beq_iff_eq, Bool.not_eq_true', decide_eq_true_eq] at c
   obtain ⟨rfl, rfl, hdel, hd, ht⟩ := c
   obtain ⟨nm, bs, mro, ns, qn, hdd, sn, sub, ab, col, del⟩ := cd
   dsimp only at hm hdel hd
   subst hm hdel hd
   have hsl : sl = #[k0, k1, k2, k3, some (.builtin "ValueError.__new__"), k5] := by
    obtain ⟨l⟩ := sl
    simp only at hs
    rw [hs]
   subst hsl
   exact ⟨nm, qn, ns, bs, bm, sn, sub, ab, col, dd, k0, k1, k2, k3, k5, ho, ht⟩
  ·cases c
 ·cases c
def Form (st : Stmt) : Prop := ∃ a1 a2 a3 p0 p1 p2 p3 p4 p5 p6 p7 p8 p9 : Pos, defArgs st = Tf.xiParams a1 a2 a3 ∧ defBody st = Tf.xiBody p0 p1 p2 p3 p4 p5 p6 p7 p8 p9 ∧ defScope st = Tf.xiScope ∧ (p2.endLine == p4.line) = true
theorem xcls_of {Pr : Program} {K : Frag} {h : Heap} {mg : Str -> Option Value} {p : Xd} (X : K.In h) (G : h.Ns mainGlobals mg) (e : fnX K p = valX p) (c : okX Pr K p = true) (htop : (Pr.main.scope.names.lookup ("super" : Str)).isSome = false) (fm : Form p.st) : mg "super" = none ∧ (Pr.main.scope.names.lookup ("super" : Str)).isSome = false ∧ mg p.cls = some (.ref (xC K p)) ∧ ∃ fI cda cc qual fd, Tf.XCls Pr K (xC K p) fI cda cc qual fd := by
 unfold okX at c
 obtain ⟨c1, c⟩ := He.ba c
 obtain ⟨c2, c⟩ := He.ba c
 obtain ⟨c3, c⟩ := He.ba c
 obtain ⟨c4, c⟩ := He.ba c
 obtain ⟨c5, c⟩ := He.ba c
 obtain ⟨c6, c⟩ := He.ba c
 obtain ⟨c7, c⟩ := He.ba c
 obtain ⟨c8, c⟩ := He.ba c
 obtain ⟨c9, c⟩ := He.ba c
 obtain ⟨c10, c⟩ := He.ba c
 obtain ⟨c11, c⟩ := He.ba c
 obtain ⟨c12, c⟩ := He.ba c
 obtain ⟨c13, c⟩ := He.ba c
 obtain ⟨c14, c⟩ := He.ba c
 obtain ⟨c15, c⟩ := He.ba c
 obtain ⟨c16, c⟩ := He.ba c
 obtain ⟨c17, c⟩ := He.ba c
 obtain ⟨c18, c19⟩ := He.ba c
 unfold fdB at c19
 unfold fnX valX at e
 cases q : fdOf K (xF K p) with
 | none => rw [q] at c19; cases c19
 | some fd =>
  rw [q] at c19 e
  have ec : xCell K p = cellOf fd.closure := by unfold xCell; rw [q]
  have ed : xCode K p = refOf fd.code := by unfold xCode; rw [q]
  rw [ec] at c13
  rw [ed] at c11 c12
  obtain ⟨k1, k2⟩ := He.ba c19
  obtain ⟨k2, k3⟩ := He.ba k2
  unfold fdOf at q
  split at q
  ·rename_i oc od fd' osl lf
   cases q
   obtain ⟨a1, a2, a3, p0, p1, p2, p3, p4, p5, p6, p7, p8, p9, f1, f2, f3, f4⟩ := fm
   obtain ⟨n1, n2, n3, n4, n5, n6, n7, n8, n9, n10, n11, n12, n13, n14, n15⟩ := fd
   dsimp only at e k1 k2 k3 c11 c12 c13 lf
   simp only [Option.some.injEq, Prod.mk.injEq] at e
   obtain ⟨h1, h2, h3, h4, h5, h6, _, h8⟩ := e
   subst h1 h2 h3 h4 h5 h6 h8
   cases n13 with
   | ref cda =>
    have hc : n7 = [((("__class__" : Str), cellOf n7) : Str × Addr)] := by
     cases n7 with
     | nil => cases k1
     | cons y r => cases r with
      | nil =>
       obtain ⟨n, c⟩ := y
       have : n = ("__class__" : Str) := beq_iff_eq.mp k1
       rw [this]; rfl
      | cons z r => cases k1
    have hcc : cellB K (cellOf n7) (xC K p) = true := c13
    clear k1 c13 ec
    generalize cellOf n7 = cc at hc hcc
    subst hc
    refine ⟨mg_none_of X G (He.eqO_ok c2), htop, mg_of X G (He.eqO_ok c1), xF K p, cda, cc, p.qual, _, ⟨⟨⟨a1, a2, a3, p0, p1, p2, p3, p4, p5, p6, p7, p8, p9, n8, n9, n10, n11, n12, n14, oc, od, osl, ?_, lf, f4⟩, ?_, c11, ?_, ?_, of_decide_eq_true c14, of_decide_eq_true c15, of_decide_eq_true c16, of_decide_eq_true c17, of_decide_eq_true c18⟩, ⟨cls_of c3, of_decide_eq_true c4, of_decide_eq_true c5, of_decide_eq_true c6, c7⟩, xfB_ok c8, of_decide_eq_true c9, of_decide_eq_true c10⟩⟩
    ·rw [f1, f2, f3]
    ·unfold dflB at k3
     split at k3
     ·rename_i T
      split at k3
      ·rename_i oc2 od2 its n sl2 lT
       split at k3
       ·rename_i hits
        have : its = #[.none] := by
         obtain ⟨l⟩ := its
         simp only at hits
         rw [hits]
        subst this
        exact ⟨T, _, n, rfl, lT, rfl⟩
       ·cases k3
      ·cases k3
     ·cases k3
    ·unfold fileB at c12
     split at c12
     ·rename_i oc2 od2 vs sl2 lc
      cases hv : vs[2]? with
      | none => rw [hv] at c12; cases c12
      | some v =>
       rw [hv] at c12
       cases v with
       | str file tf => exact ⟨oc2, od2, vs, sl2, file, tf, lc, hv, c12⟩
       | _ => cases c12
     ·cases c12
    ·unfold cellB at hcc
     split at hcc
     ·rename_i oc2 od2 D sl2 lc
      have : D = xC K p := of_decide_eq_true hcc
      subst this
      exact ⟨oc2, od2, sl2, lc⟩
     ·cases hcc
   | _ => cases k2
  ·cases q
theorem xval_of {Pr : Program} {K : Frag} {h : Heap} {mg : Str -> Option Value} {p : Xd} (X : K.In h) (G : h.Ns mainGlobals mg) (e : fnX K p = valX p) (c : okX Pr K p = true) (htop : (Pr.main.scope.names.lookup ("super" : Str)).isSome = false) (fm : Form p.st) : Tf.XVal Pr K mg p.cls :=
 let ⟨h1, h2, h3, fI, cda, cc, qual, fd, h4⟩ := xcls_of X G e c htop fm
 ⟨h1, h2, xC K p, fI, cda, cc, qual, fd, h3, h4⟩
def hookV (as : List Addr) (fa : List He.Fa) (fn : List He.DefD) (fs : List Xd) (ex : Frag -> Bool) : Hook where
 α := He.AlX × List He.FnW
 obs := fun s => (Hy.obY as fa fn ex s.heap.get?, fs.map (fnX (He.frT s.heap.get? as)))
 val := fun w => (He.valX fn [] w, fs.map valX)
 says := fun w h => ∃ K : Frag, K.In h ∧ He.SaysX fa fn [] [] ex w h K ∧ fs.map (fnX K) = fs.map valX
 of := fun w s e => ⟨_, He.frT_in, ⟨congrArg (fun z : He.AlX × List He.FnW => z.1.1) e, congrArg (fun z : He.AlX × List He.FnW => z.1.2) e, fun p hp => absurd hp List.not_mem_nil, fun p hp => absurd hp List.not_mem_nil, fun p hp => absurd hp List.not_mem_nil⟩, congrArg (fun z : He.AlX × List He.FnW => z.2) e⟩
 keeps := fun _ _ _ ⟨K, hK, c, q⟩ k => ⟨K, Frag.In.keeps hK k, ⟨c.t, c.more, c.hd, c.out, fun p hp => k _ _ (c.empty p hp)⟩, q⟩
def obV (as : List Addr) (fa : List He.Fa) (fn : List He.DefD) (fs : List Xd) (ex : Frag -> Bool) (g : Addr -> Option Obj) : He.AlX × List He.FnW := (Hy.obY as fa fn ex g, fs.map (fnX (He.frT g as)))
theorem obV_eq {as : List Addr} {fa : List He.Fa} {fn : List He.DefD} {fs : List Xd} {ex : Frag -> Bool} {g : Addr -> Option Obj} {s : Shared} (h : ∀ a, g a = s.heap.get? a) : obV as fa fn fs ex g = (hookV as fa fn fs ex).obs s := by
 have e : g = s.heap.get? := funext h
 rw [e] <;> rfl
theorem runC_parts {r : OpenRow} {as : List Addr} {fa fa1 fa2 : List He.Fa} {fn fn1 fn2 fn3 : List He.DefD} {fs : List Xd} {ex : Frag -> Bool} {ob : SharedT -> He.AlX × List He.FnW} {M : Nat} {w : World} (ho : ∀ s, ob s = obV as fa fn fs ex (HandSHeadRun.getT s)) (ef : fa = fa1 ++ fa2) (eg : fn = fn1 ++ (fn2 ++ fn3))
  (ha : Hy.RunP r (fun s => fa1.all fun f => f.ok (He.frT (HandSHeadRun.getT s) as)) true M w) (hb : Hy.RunP r (fun s => fa2.all fun f => f.ok (He.frT (HandSHeadRun.getT s) as)) true M w)
  (hc : Hy.RunP r (fun s => fn1.all fun d => d.ok (He.frT (HandSHeadRun.getT s) as)) true M w) (hc2 : Hy.RunP r (fun s => fn2.all fun d => d.ok (He.frT (HandSHeadRun.getT s) as)) true M w) (hc3 : Hy.RunP r (fun s => fn3.all fun d => d.ok (He.frT (HandSHeadRun.getT s) as)) true M w) (h2 : Hy.RunP r (fun s => (ob s).1.1.1.2) (He.valD fn).2 M w) (h3 : Hy.RunP r (fun s => (ob s).1.2) true M w) (h4 : Hy.RunP r (fun s => (ob s).2) (fs.map valX) M w) : Hy.RunC r (hookV as fa fn fs ex) ob M w := by
 intro os
 obtain ⟨s, e⟩ := ha.some os
 have a := ha.at os e
 have b := hb.at os e
 have c := hc.at os e
 have c2 := hc2.at os e
 have c3 := hc3.at os e
 have d := h2.at os e
 have g := h3.at os e
 have l := h4.at os e
 rw [e]
 refine congrArg some (Prod.ext (Prod.ext (Prod.ext (Prod.ext ?_ d) ?_) g) l)
 ·show (ob s).1.1.1.1 = true
  rw [ho s]
  show ((fa.all fun f => f.ok (He.frT (HandSHeadRun.getT s) as)) && fn.all fun d => d.ok (He.frT (HandSHeadRun.getT s) as)) = true
  rw [ef, eg, List.all_append, List.all_append, List.all_append, show (fa1.all fun f => f.ok (He.frT (HandSHeadRun.getT s) as)) = true from a, show (fa2.all fun f => f.ok (He.frT (HandSHeadRun.getT s) as)) = true from b, show (fn1.all fun d => d.ok (He.frT (HandSHeadRun.getT s) as)) = true from c, show (fn2.all fun d => d.ok (He.frT (HandSHeadRun.getT s) as)) = true from c2, show (fn3.all fun d => d.ok (He.frT (HandSHeadRun.getT s) as)) = true from c3]
  rfl
 ·show (ob s).1.1.2 = _
  rw [ho s]
  rfl
end Hv
namespace Hv
open PySem PySem.W HandSHeadRun L2
def xnm : Nat -> Str
 | 0 => "TiedFirstsError"
 | 1 => "InvalidScheme"
 | 2 => "InvalidFact"
 | 3 => "InvalidColumns"
 | 4 => "InvalidTable"
 | 5 => "InvalidQuestion"
 | _ => "InvalidPlace"
def xad (K : Frag) (c : Nat) : Addr := He.ga K (xnm c)
def ns6 : List Nat := [1, 2, 3, 4, 5, 6]
def isB (K : Frag) : Bool := He.eqO (nsIn K mainGlobals "TiedFirstsError") (some (some (.ref (xad K 0)))) && (Tf.gB K && ns6.all fun c => xfB K (xad K c) && (decide (findIn K (.ref (xad K c)) "__class__" = some (some (.builtin "object.__class__"))) && (decide (mroIn K (xad K c) (.type "object") = some true) &&
 (decide (kitOne K (.ref (xad K c)) (.ref (xad K 0)) = some true) && (decide (kitOne K (.ref (xad K c)) (.type "ValueError") = some true) && ns6.all fun d => decide (kitOne K (.ref (xad K c)) (.ref (xad K d)) = some (c == d)))))))
theorem mem6 {c : Nat} (h0 : 0 < c) (h7 : c < 7) : c ∈ ns6 := by
 have : c = 1 ∨ c = 2 ∨ c = 3 ∨ c = 4 ∨ c = 5 ∨ c = 6 := by omega
 rcases this with rfl | rfl | rfl | rfl | rfl | rfl <;> decide
abbrev XA (Pr : Program) (K : Frag) (mg : Str -> Option Value) (c : Nat) : Prop := mg "super" = none ∧ (Pr.main.scope.names.lookup ("super" : Str)).isSome = false ∧ mg (xnm c) = some (.ref (xad K c)) ∧ ∃ fI cda cc qual fd, Tf.XCls Pr K (xad K c) fI cda cc qual fd
theorem clsX_of {Pr : Program} {K : Frag} {h : Heap} {mg : Str -> Option Value} (X : K.In h) (G : h.Ns mainGlobals mg) (b : isB K = true) (a1 : XA Pr K mg 1) (a2 : XA Pr K mg 2) (a3 : XA Pr K mg 3) (a4 : XA Pr K mg 4) (a5 : XA Pr K mg 5) (a6 : XA Pr K mg 6) : ∃ C, Tf.ClsX Pr K mg C := by
 unfold isB at b
 obtain ⟨b1, b⟩ := He.ba b
 obtain ⟨b2, b⟩ := He.ba b
 have g := Tf.gB_ok b2
 have all : ∀ c, 0 < c -> c < 7 -> _ := fun c h0 h7 => List.all_eq_true.mp b c (mem6 h0 h7)
 have kit : ∀ c, 0 < c -> c < 7 -> Tf.XKit K (xad K c) ∧ kitOne K (.ref (xad K c)) (.ref (xad K 0)) = some true ∧ kitOne K (.ref (xad K c)) (.type "ValueError") = some true ∧ ∀ d, 0 < d -> d < 7 -> kitOne K (.ref (xad K c)) (.ref (xad K d)) = some (c == d) := fun c h0 h7 => by
  have z := all c h0 h7
  obtain ⟨z1, z⟩ := He.ba z
  obtain ⟨z2, z⟩ := He.ba z
  obtain ⟨z3, z⟩ := He.ba z
  obtain ⟨z4, z⟩ := He.ba z
  obtain ⟨z5, z⟩ := He.ba z
  exact ⟨⟨xfB_ok z1, of_decide_eq_true z2, of_decide_eq_true z3, g.1, g.2⟩, of_decide_eq_true z4, of_decide_eq_true z5, fun d d0 d7 => of_decide_eq_true (List.all_eq_true.mp z d (mem6 d0 d7))⟩
 refine ⟨xad K, a1.1, a1.2.1, mg_of X G (He.eqO_ok b1), a1.2.2.1, a2.2.2.1, a3.2.2.1, a4.2.2.1, a5.2.2.1, a6.2.2.1, fun c h0 h7 => ?_, fun c h0 h7 => (kit c h0 h7).1, fun c h0 h7 => (kit c h0 h7).2.1, fun c h0 h7 => (kit c h0 h7).2.2.1, fun c h0 h7 => (kit c h0 h7).2.2.2⟩
 have : c = 1 ∨ c = 2 ∨ c = 3 ∨ c = 4 ∨ c = 5 ∨ c = 6 := by omega
 rcases this with rfl | rfl | rfl | rfl | rfl | rfl
 ·exact a1.2.2.2
 ·exact a2.2.2.2
 ·exact a3.2.2.2
 ·exact a4.2.2.2
 ·exact a5.2.2.2
 ·exact a6.2.2.2
end Hv
section
set_option maxHeartbeats 0
namespace Hx
open PySem L2 PyProof.Rows Tf
def fa : List He.Fa := [.free "ValueError", .free "int", .free "isinstance", .free "len", .free "list", .free "max", .free "range", .free "repr"]
def fa0 : List He.Fa := [.glo "_law_purse", .glo "_law_draw", .glo "_law_pick", .glo "_law_classes", .glo "_law_right", .glo "law"]
def faC : List He.Fa := []
def fas : List He.Fa := fa ++ faC ++ fa0
abbrev gl (x : Str) (s : Stmt) : He.DefD := ⟨(x, none), x, x, defArgs s, defBody s, defScope s, [], []⟩
abbrev me (c x : Str) (s : Stmt) : He.DefD := ⟨(c, some x), x, c ++ "." ++ x, defArgs s, defBody s, defScope s, [], []⟩
def fn0 : List He.DefD := [gl "_law_purse" s150, gl "_law_draw" s151, gl "_law_pick" s152, gl "_law_classes" s153, gl "_law_right" s154, gl "law" s155]
def fnC : List He.DefD := []
def fns : List He.DefD := fnC ++ fn0
abbrev sX_InvalidScheme : Stmt := inClass (top 2) 0
theorem form_InvalidScheme : Hv.Form sX_InvalidScheme := ⟨⟨6, 17, 6, 21⟩, ⟨6, 23, 6, 28⟩, ⟨6, 29, 6, 33⟩, ⟨7, 8, 7, 13⟩, ⟨7, 8, 7, 15⟩, ⟨7, 8, 7, 24⟩, ⟨7, 25, 7, 30⟩, ⟨7, 8, 7, 31⟩, ⟨7, 8, 7, 31⟩, ⟨8, 8, 8, 12⟩, ⟨8, 8, 8, 18⟩, ⟨8, 21, 8, 26⟩, ⟨8, 8, 8, 26⟩, by kernel_rfl, by kernel_rfl, by kernel_rfl, by decide⟩
def xd_InvalidScheme : Hv.Xd := ⟨"InvalidScheme", "InvalidScheme.__init__", sX_InvalidScheme⟩
abbrev sX_InvalidFact : Stmt := inClass (top 3) 0
theorem form_InvalidFact : Hv.Form sX_InvalidFact := ⟨⟨11, 17, 11, 21⟩, ⟨11, 23, 11, 28⟩, ⟨11, 29, 11, 33⟩, ⟨12, 8, 12, 13⟩, ⟨12, 8, 12, 15⟩, ⟨12, 8, 12, 24⟩, ⟨12, 25, 12, 30⟩, ⟨12, 8, 12, 31⟩, ⟨12, 8, 12, 31⟩, ⟨13, 8, 13, 12⟩, ⟨13, 8, 13, 18⟩, ⟨13, 21, 13, 26⟩, ⟨13, 8, 13, 26⟩, by kernel_rfl, by kernel_rfl, by kernel_rfl, by decide⟩
def xd_InvalidFact : Hv.Xd := ⟨"InvalidFact", "InvalidFact.__init__", sX_InvalidFact⟩
abbrev sX_InvalidColumns : Stmt := inClass (top 4) 0
theorem form_InvalidColumns : Hv.Form sX_InvalidColumns := ⟨⟨16, 17, 16, 21⟩, ⟨16, 23, 16, 28⟩, ⟨16, 29, 16, 33⟩, ⟨17, 8, 17, 13⟩, ⟨17, 8, 17, 15⟩, ⟨17, 8, 17, 24⟩, ⟨17, 25, 17, 30⟩, ⟨17, 8, 17, 31⟩, ⟨17, 8, 17, 31⟩, ⟨18, 8, 18, 12⟩, ⟨18, 8, 18, 18⟩, ⟨18, 21, 18, 26⟩, ⟨18, 8, 18, 26⟩, by kernel_rfl, by kernel_rfl, by kernel_rfl, by decide⟩
def xd_InvalidColumns : Hv.Xd := ⟨"InvalidColumns", "InvalidColumns.__init__", sX_InvalidColumns⟩
abbrev sX_InvalidTable : Stmt := inClass (top 5) 0
theorem form_InvalidTable : Hv.Form sX_InvalidTable := ⟨⟨21, 17, 21, 21⟩, ⟨21, 23, 21, 28⟩, ⟨21, 29, 21, 33⟩, ⟨22, 8, 22, 13⟩, ⟨22, 8, 22, 15⟩, ⟨22, 8, 22, 24⟩, ⟨22, 25, 22, 30⟩, ⟨22, 8, 22, 31⟩, ⟨22, 8, 22, 31⟩, ⟨23, 8, 23, 12⟩, ⟨23, 8, 23, 18⟩, ⟨23, 21, 23, 26⟩, ⟨23, 8, 23, 26⟩, by kernel_rfl, by kernel_rfl, by kernel_rfl, by decide⟩
def xd_InvalidTable : Hv.Xd := ⟨"InvalidTable", "InvalidTable.__init__", sX_InvalidTable⟩
abbrev sX_InvalidQuestion : Stmt := inClass (top 6) 0
theorem form_InvalidQuestion : Hv.Form sX_InvalidQuestion := ⟨⟨26, 17, 26, 21⟩, ⟨26, 23, 26, 28⟩, ⟨26, 29, 26, 33⟩, ⟨27, 8, 27, 13⟩, ⟨27, 8, 27, 15⟩, ⟨27, 8, 27, 24⟩, ⟨27, 25, 27, 30⟩, ⟨27, 8, 27, 31⟩, ⟨27, 8, 27, 31⟩, ⟨28, 8, 28, 12⟩, ⟨28, 8, 28, 18⟩, ⟨28, 21, 28, 26⟩, ⟨28, 8, 28, 26⟩, by kernel_rfl, by kernel_rfl, by kernel_rfl, by decide⟩
def xd_InvalidQuestion : Hv.Xd := ⟨"InvalidQuestion", "InvalidQuestion.__init__", sX_InvalidQuestion⟩
abbrev sX_InvalidPlace : Stmt := inClass (top 7) 0
theorem form_InvalidPlace : Hv.Form sX_InvalidPlace := ⟨⟨31, 17, 31, 21⟩, ⟨31, 23, 31, 28⟩, ⟨31, 29, 31, 33⟩, ⟨32, 8, 32, 13⟩, ⟨32, 8, 32, 15⟩, ⟨32, 8, 32, 24⟩, ⟨32, 25, 32, 30⟩, ⟨32, 8, 32, 31⟩, ⟨32, 8, 32, 31⟩, ⟨33, 8, 33, 12⟩, ⟨33, 8, 33, 18⟩, ⟨33, 21, 33, 26⟩, ⟨33, 8, 33, 26⟩, by kernel_rfl, by kernel_rfl, by kernel_rfl, by decide⟩
def xd_InvalidPlace : Hv.Xd := ⟨"InvalidPlace", "InvalidPlace.__init__", sX_InvalidPlace⟩
def xds : List Hv.Xd := [xd_InvalidScheme, xd_InvalidFact, xd_InvalidColumns, xd_InvalidTable, xd_InvalidQuestion, xd_InvalidPlace]
def ex (K : PySem.W.Frag) : Bool := (Tf.btB K (.type "int") [.int] && (Tf.btB K (.type "bool") [.bool] && (Tf.btB K (.type "str") [.str] && (Tf.btB K (.type "list") [.list] && (Tf.btB K (.type "tuple") [.tuple] && (Tf.gB K && (Hv.okX PySem.Challenge.rw_tiedfirsts_k01_errors_made.prog K xd_InvalidScheme && (Hv.okX PySem.Challenge.rw_tiedfirsts_k01_errors_made.prog K xd_InvalidFact && (Hv.okX PySem.Challenge.rw_tiedfirsts_k01_errors_made.prog K xd_InvalidColumns && (Hv.okX PySem.Challenge.rw_tiedfirsts_k01_errors_made.prog K xd_InvalidTable && (Hv.okX PySem.Challenge.rw_tiedfirsts_k01_errors_made.prog K xd_InvalidQuestion && (Hv.okX PySem.Challenge.rw_tiedfirsts_k01_errors_made.prog K xd_InvalidPlace && Hv.isB K))))))))))))
abbrev R : PySem.W.OpenRow := PySem.W.OpenLaw.row PySem.Challenge.rw_tiedfirsts_k01_errors_made
abbrev qv : Program := PySem.W.view R.prog [14]
def nm0 : List PySem.Str := ["__name__", "TiedFirstsError", "InvalidScheme", "InvalidFact", "InvalidColumns", "InvalidTable", "InvalidQuestion", "InvalidPlace", "_law_purse", "_law_draw", "_law_pick", "_law_classes", "_law_right"]
def nms : List PySem.Str := nm0
def as0 : List Addr := [3, 6, 4, 24, 47, 69, 91, 113, 135, 157, 166, 173, 180, 185, 190, 197, 0, 23, 46, 68, 90, 112, 134, 156, 165, 172, 179, 184, 189, 196, 22, 25, 44, 45, 66, 67, 88, 89, 110, 111]
def as40 : List Addr := [132, 133, 154, 155, 160, 161, 162, 163, 164, 167, 168, 169, 170, 171, 174, 175, 176, 177, 178, 181, 182, 183, 186, 187, 188, 191, 192, 193, 194, 195, 43, 36, 31, 65, 58, 53, 87, 80, 75, 109]
def as80 : List Addr := [102, 97, 131, 124, 119, 153, 146, 141, 31, 53, 75, 97, 119, 141, 2]
def ads : List Addr := as0 ++ as40 ++ as80
abbrev hk : PySem.W.Hook := Hv.hookV ads fas fns xds ex
def ob (s : PySem.W.SharedT) : He.AlX × List He.FnW := Hv.obV ads fas fns xds ex (HandSHeadRun.getT s)
theorem ob_eq (s : PySem.W.SharedT) : ob s = hk.obs s.abs := Hv.obV_eq (HandSHeadRun.getT_eq s)
theorem runA0 (w : World) : Hy.RunP R (fun s => Hy.lkA R w s) true 12000 w := by
 intro os
 kernel_rfl
theorem runA1 (w : World) : Hy.RunP R (fun s => Hy.sqA R qv nms s) (Hy.sqV qv nms) 12000 w := by
 intro os
 kernel_rfl
theorem runA (w : World) : Hy.RunA R qv 12000 nms w := Hy.runA_parts (runA0 w) (runA1 w)
theorem runB (w : World) : Hy.RunB R qv 12000 nms w := by
 intro os
 kernel_rfl
def fasL : List He.Fa := fas.take 70
def fasR : List He.Fa := fas.drop 70
def fnsA : List He.DefD := fns.take 45
def fnsB : List He.DefD := (fns.drop 45).take 45
def fnsC : List He.DefD := (fns.drop 45).drop 45
theorem fns_eq : fns = fnsA ++ (fnsB ++ fnsC) := by
 unfold fnsA fnsB fnsC
 rw [List.take_append_drop, List.take_append_drop]
theorem runC0 (w : World) : Hy.RunP R (fun s => fasL.all fun f => f.ok (He.frT (HandSHeadRun.getT s) ads)) true 12000 w := by
 intro os
 kernel_rfl
theorem runC1 (w : World) : Hy.RunP R (fun s => fasR.all fun f => f.ok (He.frT (HandSHeadRun.getT s) ads)) true 12000 w := by
 intro os
 kernel_rfl
theorem runC2 (w : World) : Hy.RunP R (fun s => fnsA.all fun d => d.ok (He.frT (HandSHeadRun.getT s) ads)) true 12000 w := by
 intro os
 kernel_rfl
theorem runC3 (w : World) : Hy.RunP R (fun s => fnsB.all fun d => d.ok (He.frT (HandSHeadRun.getT s) ads)) true 12000 w := by
 intro os
 kernel_rfl
theorem runC4 (w : World) : Hy.RunP R (fun s => fnsC.all fun d => d.ok (He.frT (HandSHeadRun.getT s) ads)) true 12000 w := by
 intro os
 kernel_rfl
theorem runC5 (w : World) : Hy.RunP R (fun s => (ob s).1.1.1.2) (He.valD fns).2 12000 w := by
 intro os
 kernel_rfl
theorem runC6 (w : World) : Hy.RunP R (fun s => (ob s).1.2) true 12000 w := by
 intro os
 kernel_rfl
theorem runC7 (w : World) : Hy.RunP R (fun s => (ob s).2) (xds.map Hv.valX) 12000 w := by
 intro os
 kernel_rfl
theorem runC (w : World) : Hy.RunC R hk ob 12000 w := Hv.runC_parts (fun _ => rfl) (List.take_append_drop 70 fas).symm fns_eq (runC0 w) (runC1 w) (runC2 w) (runC3 w) (runC4 w) (runC5 w) (runC6 w) (runC7 w)
theorem run (w : World) : HandSHeadRun.RunEq R qv hk ob 12000 nms w := Hy.run3 (runA w) (runB w) (runC w)
end Hx
end
namespace Tf
open PySem L2 PyProof.Rows
structure Txt (K : PySem.W.Frag) (mg : Str -> Option Value) (N : Nm) (ad : Nat -> Addr) (fdt : Nat -> FuncData) (ps : Nat -> List Str) : Prop where
 m_ValueError : mg "ValueError" = none
 m_int : mg "int" = none
 m_isinstance : mg "isinstance" = none
 m_len : mg "len" = none
 m_list : mg "list" = none
 m_max : mg "max" = none
 m_range : mg "range" = none
 m_repr : mg "repr" = none
 m__law_purse : mg "_law_purse" = some (.ref (ad 150))
 k_150 : PySem.W.keepIn K (.ref (ad 150)) = true
 b_150 : L2.Binds K (fdt 150) (ps 150) []
 m__law_draw : mg "_law_draw" = some (.ref (ad 151))
 k_151 : PySem.W.keepIn K (.ref (ad 151)) = true
 b_151 : L2.Binds K (fdt 151) (ps 151) []
 m__law_pick : mg "_law_pick" = some (.ref (ad 152))
 k_152 : PySem.W.keepIn K (.ref (ad 152)) = true
 b_152 : L2.Binds K (fdt 152) (ps 152) []
 m__law_classes : mg "_law_classes" = some (.ref (ad 153))
 k_153 : PySem.W.keepIn K (.ref (ad 153)) = true
 b_153 : L2.Binds K (fdt 153) (ps 153) []
 m__law_right : mg "_law_right" = some (.ref (ad 154))
 k_154 : PySem.W.keepIn K (.ref (ad 154)) = true
 b_154 : L2.Binds K (fdt 154) (ps 154) []
 m_law : mg "law" = some (.ref (ad 155))
 k_155 : PySem.W.keepIn K (.ref (ad 155)) = true
 b_155 : L2.Binds K (fdt 155) (ps 155) []
 X_TiedFirstsError : mg "TiedFirstsError" = some (.ref (N.cls 0))
 x_TiedFirstsError : XIs K N (.ref (N.cls 0)) [1, 2, 3, 4, 5, 6]
 X_InvalidScheme : mg "InvalidScheme" = some (.ref (N.cls 1))
 x_InvalidScheme : XIs K N (.ref (N.cls 1)) [1]
 X_InvalidFact : mg "InvalidFact" = some (.ref (N.cls 2))
 x_InvalidFact : XIs K N (.ref (N.cls 2)) [2]
 X_InvalidColumns : mg "InvalidColumns" = some (.ref (N.cls 3))
 x_InvalidColumns : XIs K N (.ref (N.cls 3)) [3]
 X_InvalidTable : mg "InvalidTable" = some (.ref (N.cls 4))
 x_InvalidTable : XIs K N (.ref (N.cls 4)) [4]
 X_InvalidQuestion : mg "InvalidQuestion" = some (.ref (N.cls 5))
 x_InvalidQuestion : XIs K N (.ref (N.cls 5)) [5]
 X_InvalidPlace : mg "InvalidPlace" = some (.ref (N.cls 6))
 x_InvalidPlace : XIs K N (.ref (N.cls 6)) [6]
 x_ValueError : XIs K N (.type "ValueError") [1, 2, 3, 4, 5, 6]
 i_int : IsiOk K N (.type "int") [.int]
 i_bool : IsiOk K N (.type "bool") [.bool]
 i_str : IsiOk K N (.type "str") [.str]
 i_list : IsiOk K N (.type "list") [.list]
 i_tuple : IsiOk K N (.type "tuple") [.tuple]
section
variable {Pr : Program} {w : World} {K : PySem.W.Frag} {mg : Str -> Option Value} {base : Heap} {N : Nm} {ad : Nat -> Addr} {fdt : Nat -> FuncData} {ps : Nat -> List Str} {call : Call} {fuel k : Nat}
abbrev HCal (Pr : Program) (w : World) (K : PySem.W.Frag) (mg : Str -> Option Value) (base : Heap) (N : Nm) (call : Call) (fuel k : Nat) (ad : Nat -> Addr) (fdt : Nat -> FuncData) (ps : Nat -> List Str) : Prop := ∀ i, Cal Pr w K mg base CX0 N cls fuel call k i (ad i) (fdt i) (ps i)
abbrev Bdy (Pr : Program) (w : World) (K : PySem.W.Frag) (mg : Str -> Option Value) (base : Heap) (N : Nm) (call : Call) (fuel k : Nat) (names : List Str) (st : Stmt) (fd : Fd) : Prop := ∀ {qual : Str} {f : Addr} {cdv : Value} {A : Around} {outer : List PySem.Env} {s : Shared} {H : Hp} {E : XK}, RoomG (k + 1) (A.deeper (envOfC qual (defScope st) s.heap.objs.size f cdv)) ->
  PSs (cxOf CX0 Pr w K mg base names qual (defScope st) f cdv A outer s H E).nox (defBody st) (tEx ⟨w, K, N.cls, N.fld, N.own⟩ (execs cls call fuel fd.body))
theorem rmB {A : Around} (h : RoomG (k + 1) A) : RoomG k A ∧ A.units + 64 < cLine := ⟨h.mono (Nat.le_succ k), (h.mono (Nat.le_succ k)).units⟩
theorem sc150 : FnScope ["_law_script", "_law_at", "_law_cell"] ["_law_script", "_law_at"] (defScope s150) := ⟨rfl, rfl, rfl, by decide +kernel, rfl, by decide +kernel, by decide +kernel⟩
theorem b150 (T : Txt K mg N ad fdt ps) (hC : HCal Pr w K mg base N call fuel k ad fdt ps) : Bdy Pr w K mg base N call fuel k ["_law_script", "_law_at", "_law_cell"] s150 f150 := by
 intro qual f cdv A outer s H E hr1
 obtain ⟨hr, hu⟩ := rmB hr1
 have nd := sc150.nd
 exact (ss_cons (P.asg nd se_int) (ss_cons (ss_if (P.bcmp o_lt (P.v 1) (P.callB P.o_len' T.m_len (P.acons (P.v 0) P.anil))) (ss_cons (P.asg nd (P.ix hu (P.v 0) (P.v 1))) ss_nil) ss_nil) (ss_cons (ss_ret (P.al (sf_lst (P.acons (P.bin o_mod (P.callT o_int1 T.m_int (P.acons (P.callB (o_max2 rfl) T.m_max (P.acons (P.bin o_sub (P.v 2) (P.bin o_pow se_int se_int)) (P.acons se_int P.anil))) P.anil)) (P.bin o_pow (P.bin o_pow se_int se_int) se_int)) (P.acons (P.bin o_mod (P.callT o_int1 T.m_int (P.acons (P.bin o_add (P.v 2) (P.bin o_mul se_int (P.v 1))) P.anil)) se_int) (P.acons se_int P.anil)))))) ss_nil)))
theorem sc151 : FnScope ["_law_purse_here", "_law_many", "_law_turn", "_law_number", "_law_drawn"] ["_law_purse_here", "_law_many"] (defScope s151) := ⟨rfl, rfl, rfl, by decide +kernel, rfl, by decide +kernel, by decide +kernel⟩
theorem b151 (T : Txt K mg N ad fdt ps) (hC : HCal Pr w K mg base N call fuel k ad fdt ps) : Bdy Pr w K mg base N call fuel k ["_law_purse_here", "_law_many", "_law_turn", "_law_number", "_law_drawn"] s151 f151 := by
 intro qual f cdv A outer s H E hr1
 obtain ⟨hr, hu⟩ := rmB hr1
 have nd := sc151.nd
 exact (ss_cons (ss_if (P.bcmp o_gt (P.ix hu (P.v 0) se_int) se_int) (ss_cons (P.asg nd (P.bin o_mod (P.callT o_int1 T.m_int (P.acons (P.ix hu (P.v 0) se_int) P.anil)) (P.v 1))) (ss_cons (P.sub hu (P.bin o_fdiv (P.ix hu (P.v 0) se_int) (P.v 1)) (P.v 0) se_int) (ss_cons (ss_ret (P.v 4)) ss_nil))) ss_nil) (ss_cons (P.asg nd (P.bin o_add (P.ix hu (P.v 0) se_int) se_int)) (ss_cons (P.sub hu (P.v 2) (P.v 0) se_int) (ss_cons (P.asg nd (P.bin o_mod (P.callT o_int1 T.m_int (P.acons (P.bin o_mul (P.bin o_add (P.ix hu (P.v 0) se_int) (P.bin o_mul se_int (P.v 2))) (P.bin o_add (P.bin o_mul (P.v 2) (P.v 2)) se_int)) P.anil)) se_int)) (ss_cons (P.asg nd (P.bin o_mod (P.callT o_int1 T.m_int (P.acons (P.bin o_add (P.bin o_mul (P.v 3) (P.v 3)) (P.v 2)) P.anil)) se_int)) (ss_cons (ss_ret (P.bin o_mod (P.bin o_fdiv (P.bin o_mod (P.callT o_int1 T.m_int (P.acons (P.bin o_mul (P.v 3) se_int) P.anil)) se_int) se_int) (P.v 1))) ss_nil))))))
theorem sc152 : FnScope ["_law_purse_here", "_law_items"] ["_law_purse_here", "_law_items"] (defScope s152) := ⟨rfl, rfl, rfl, by decide +kernel, rfl, by decide +kernel, by decide +kernel⟩
theorem b152 (T : Txt K mg N ad fdt ps) (hC : HCal Pr w K mg base N call fuel k ad fdt ps) : Bdy Pr w K mg base N call fuel k ["_law_purse_here", "_law_items"] s152 f152 := by
 intro qual f cdv A outer s H E hr1
 obtain ⟨hr, hu⟩ := rmB hr1
 have nd := sc152.nd
 exact (ss_cons (ss_ret (P.ix hu (P.v 1) (P.call1 (hC 151) hr T.m__law_draw T.k_151 T.b_151 (P.acons (P.v 0) (P.acons (P.callB P.o_len' T.m_len (P.acons (P.v 1) P.anil)) P.anil))))) ss_nil)
theorem sc153 : FnScope ["_law_error", "_law_some", "_law_at"] ["_law_error"] (defScope s153) := ⟨rfl, rfl, rfl, by decide +kernel, rfl, by decide +kernel, by decide +kernel⟩
theorem b153 (T : Txt K mg N ad fdt ps) (hC : HCal Pr w K mg base N call fuel k ad fdt ps) : Bdy Pr w K mg base N call fuel k ["_law_error", "_law_some", "_law_at"] s153 f153 := by
 intro qual f cdv A outer s H E hr1
 obtain ⟨hr, hu⟩ := rmB hr1
 have nd := sc153.nd
 exact (ss_cons (P.asg nd (P.lst (P.acons (P.isX T.m_isinstance (P.v 0) (P.clN T.X_InvalidScheme) (.own _) T.x_InvalidScheme) (P.acons (P.isX T.m_isinstance (P.v 0) (P.clN T.X_InvalidFact) (.own _) T.x_InvalidFact) P.anil)))) (ss_cons (P.asg nd (P.bin o_add (P.v 1) (P.lst (P.acons (P.isX T.m_isinstance (P.v 0) (P.clN T.X_InvalidColumns) (.own _) T.x_InvalidColumns) P.anil)))) (ss_cons (P.asg nd (P.bin o_add (P.v 1) (P.lst (P.acons (P.isX T.m_isinstance (P.v 0) (P.clN T.X_InvalidTable) (.own _) T.x_InvalidTable) (P.acons (P.isX T.m_isinstance (P.v 0) (P.clN T.X_InvalidQuestion) (.own _) T.x_InvalidQuestion) P.anil))))) (ss_cons (P.asg nd (P.bin o_add (P.v 1) (P.lst (P.acons (P.isX T.m_isinstance (P.v 0) (P.clN T.X_InvalidPlace) (.own _) T.x_InvalidPlace) P.anil)))) (ss_cons (ss_if (PW.pt (sw_or (sb_not (P.bof (P.isX T.m_isinstance (P.v 0) (P.clN T.X_TiedFirstsError) (.own _) T.x_TiedFirstsError))) (sw_or1 (sb_not (P.bof (P.isX T.m_isinstance (P.v 0) (P.tyN T.m_ValueError) (.ty _) T.x_ValueError)))))) (ss_cons (ss_ret (P.lst P.anil)) ss_nil) ss_nil) (ss_cons (ss_ret (P.lc [("_law_at", 2)] nd (P.rg1 T.m_range (P.acons (P.callB P.o_len' T.m_len (P.acons (P.v 1) P.anil)) P.anil)) (fun _ _ _ _ _ => (P.tgt nd)) (fun _ _ _ _ _ => (st_one (P.bof (P.ix hu (P.v 1) (P.v 2))))) (fun _ _ _ _ _ => (P.v 2)))) ss_nil))))))
theorem sc154 : FnScope ["_law_errors", "_law_given", "_law_told", "_law_error", "_law_at"] ["_law_errors", "_law_given"] (defScope s154) := ⟨rfl, rfl, rfl, by decide +kernel, rfl, by decide +kernel, by decide +kernel⟩
theorem b154 (T : Txt K mg N ad fdt ps) (hC : HCal Pr w K mg base N call fuel k ad fdt ps) (kx : KnX Pr K mg N) : Bdy Pr w K mg base N call fuel k ["_law_errors", "_law_given", "_law_told", "_law_error", "_law_at"] s154 f154 := by
 intro qual f cdv A outer s H E hr1
 obtain ⟨hr, hu⟩ := rmB hr1
 have nd := sc154.nd
 exact (ss_cons (P.asgLcR [("_law_error", 3)] nd (P.v 0) (fun _ _ _ _ _ => (P.tgt nd)) (fun _ _ _ _ _ => st_nil) (fun _ _ _ _ _ => (P.excV kx (P.v 3)))) (ss_cons (ss_if (P.breprNe hr T.m_repr (P.v 2) (P.repL (P.v 1) (P.callB P.o_len' T.m_len (P.acons (P.v 0) P.anil)))) (ss_cons (ss_ret se_bl) ss_nil) ss_nil) (ss_cons (ss_ret (P.eq rfl hu (P.frE (P.lcX [("_law_error", 3)] nd (P.v 0) (fun _ _ _ _ _ => (P.tgt nd)) (fun _ _ _ _ _ => st_nil) (fun _ _ _ _ _ => (P.hp (hC 153) hr T.m__law_classes T.k_153 T.b_153 (P.acons (P.v 3) P.anil))))) (P.lc [("_law_at", 4)] nd (P.rg1 T.m_range (P.acons (P.callB P.o_len' T.m_len (P.acons (P.v 0) P.anil)) P.anil)) (fun _ _ _ _ _ => (P.tgt nd)) (fun _ _ _ _ _ => st_nil) (fun _ _ _ _ _ => (P.lst (P.acons (P.v 4) P.anil)))))) ss_nil)))
theorem sc155 : FnScope ["_law_script", "_law_purse_here", "_law_number", "_law_given", "_law_placed", "_law_named", "_law_bare"] ["_law_script"] (defScope s155) := ⟨rfl, rfl, rfl, by decide +kernel, rfl, by decide +kernel, by decide +kernel⟩
theorem b155 (T : Txt K mg N ad fdt ps) (hC : HCal Pr w K mg base N call fuel k ad fdt ps) (kx : KnX Pr K mg N) (h2 : 2 <= k + 1) : Bdy Pr w K mg base N call fuel k ["_law_script", "_law_purse_here", "_law_number", "_law_given", "_law_placed", "_law_named", "_law_bare"] s155 f155 := by
 intro qual f cdv A outer s H E hr1
 obtain ⟨hr, hu⟩ := rmB hr1
 have nd := sc155.nd
 exact (ss_cons (P.asg nd (P.keep1 (hC 150) hr T.m__law_purse T.k_150 T.b_150 (P.acons (P.v 0) (P.acons se_int P.anil)))) (ss_cons (P.asg nd (P.bin o_add (P.bin o_mul (P.call1 (hC 151) hr T.m__law_draw T.k_151 T.b_151 (P.acons (P.v 1) (P.acons (P.bin o_pow se_int se_int) P.anil))) (P.bin o_pow se_int se_int)) (P.call1 (hC 151) hr T.m__law_draw T.k_151 T.b_151 (P.acons (P.v 1) (P.acons (P.bin o_pow se_int se_int) P.anil))))) (ss_cons (P.asg nd (P.hp (hC 152) hr T.m__law_pick T.k_152 T.b_152 (P.acons (P.v 1) (P.acons (se_lstO (P.acons se_non (P.acons se_bl (P.acons (P.v 2) (P.acons (P.bin o_sub se_int (P.v 2)) (P.acons (P.bin o_mulS P.str (P.call1 (hC 151) hr T.m__law_draw T.k_151 T.b_151 (P.acons (P.v 1) (P.acons se_int P.anil)))) (P.acons (se_tup P.anil) (P.acons (P.al (sf_lst (P.acons (P.v 2) P.anil))) (P.acons (se_lstO (P.acons (P.al (sf_lst P.anil)) (P.acons (P.al (sf_lst (P.acons P.str P.anil))) P.anil))) (P.acons P.dct0 P.anil)))))))))) P.anil)))) (ss_cons (P.asg nd (se_lstO (P.acons (P.mkP kx (by decide) (by decide) T.X_InvalidScheme (hr1.mono h2) (P.v 3)) (P.acons (P.mkP kx (by decide) (by decide) T.X_InvalidFact (hr1.mono h2) (P.v 3)) (P.acons (P.mkP kx (by decide) (by decide) T.X_InvalidColumns (hr1.mono h2) (P.v 3)) (P.acons (P.mkP kx (by decide) (by decide) T.X_InvalidTable (hr1.mono h2) (P.v 3)) P.anil)))))) (ss_cons (P.asg nd (P.catO (P.v 4) (se_lstO (P.acons (P.mkP kx (by decide) (by decide) T.X_InvalidQuestion (hr1.mono h2) (P.v 3)) (P.acons (P.mkP kx (by decide) (by decide) T.X_InvalidPlace (hr1.mono h2) (P.v 3)) P.anil))))) (ss_cons (P.asg nd (se_lstO (P.acons (P.mkK kx (by decide) (by decide) T.X_InvalidScheme (hr1.mono h2) (P.v 3)) (P.acons (P.mkK kx (by decide) (by decide) T.X_InvalidFact (hr1.mono h2) (P.v 3)) (P.acons (P.mkK kx (by decide) (by decide) T.X_InvalidColumns (hr1.mono h2) (P.v 3)) P.anil))))) (ss_cons (P.asg nd (P.catO (P.v 5) (se_lstO (P.acons (P.mkK kx (by decide) (by decide) T.X_InvalidTable (hr1.mono h2) (P.v 3)) P.anil)))) (ss_cons (P.asg nd (P.catO (P.v 5) (se_lstO (P.acons (P.mkK kx (by decide) (by decide) T.X_InvalidQuestion (hr1.mono h2) (P.v 3)) (P.acons (P.mkK kx (by decide) (by decide) T.X_InvalidPlace (hr1.mono h2) (P.v 3)) P.anil))))) (ss_cons (P.asg nd (se_lstO (P.acons (P.mk0 kx (by decide) (by decide) T.X_InvalidScheme (hr1.mono h2)) (P.acons (P.mk0 kx (by decide) (by decide) T.X_InvalidFact (hr1.mono h2)) (P.acons (P.mk0 kx (by decide) (by decide) T.X_InvalidColumns (hr1.mono h2)) (P.acons (P.mk0 kx (by decide) (by decide) T.X_InvalidTable (hr1.mono h2)) (P.acons (P.mk0 kx (by decide) (by decide) T.X_InvalidQuestion (hr1.mono h2)) P.anil))))))) (ss_cons (P.asg nd (P.catO (P.v 6) (se_lstO (P.acons (P.mk0 kx (by decide) (by decide) T.X_InvalidPlace (hr1.mono h2)) P.anil)))) (ss_cons (ss_if (PW.pt (sw_or (sb_not (P.bof (P.hp (hC 154) hr T.m__law_right T.k_154 T.b_154 (P.acons (P.v 4) (P.acons (P.v 3) P.anil))))) (sw_or (sb_not (P.bof (P.hp (hC 154) hr T.m__law_right T.k_154 T.b_154 (P.acons (P.v 5) (P.acons (P.v 3) P.anil))))) (sw_or1 (sb_not (P.bof (P.hp (hC 154) hr T.m__law_right T.k_154 T.b_154 (P.acons (P.v 6) (P.acons se_non P.anil))))))))) (ss_cons (ss_ret se_bl) ss_nil) ss_nil) (ss_cons (ss_if (P.bof (P.isi T.m_isinstance (P.v 3) (P.tyN T.m_list) (.ty _) T.i_list)) (ss_cons (P.exp (P.app (P.acons P.str P.anil))) (ss_cons (ss_ret (se_and (P.hp (hC 154) hr T.m__law_right T.k_154 T.b_154 (P.acons (P.v 4) (P.acons (P.v 3) P.anil))) (se_one (P.hp (hC 154) hr T.m__law_right T.k_154 T.b_154 (P.acons (P.v 5) (P.acons (P.v 3) P.anil)))))) ss_nil)) ss_nil) (ss_cons (ss_ret se_bl) ss_nil)))))))))))))
end
def psN : Nat -> List Str
 | 150 => ["_law_script", "_law_at"]
 | 151 => ["_law_purse_here", "_law_many"]
 | 152 => ["_law_purse_here", "_law_items"]
 | 153 => ["_law_error"]
 | 154 => ["_law_errors", "_law_given"]
 | 155 => ["_law_script"]
 | _ => []
def flds : List Str := (("value" : Str) :: ("__init__" : Str) :: ("append" : Str) :: ("rules" : Str) :: ("heads" : Str) :: ("facts" : Str) :: ("index" : Str) :: ("closure" : Str) :: ("keeps" : Str) :: ("columns" : Str) :: ("update" : Str) :: ("implies" : Str) :: ("rows" : Str) :: ("form" : Str) :: ("values" : Str) :: ("steps" : Str) :: ("extend" : Str) :: ("items" : Str) :: ("get" : Str) :: ("scheme" : Str) :: ("setdefault" : Str) :: ("pop" : Str) :: ("first" : Str) :: ("is_set" : Str) :: ("firsts" : Str) :: ("constants" : Str) :: ("ahead" : Str) :: ("behind" : Str) :: ("early" : Str) :: ("kinds" : Str) :: ("sides" : Str) :: ("matched" : Str) :: ("lets" : Str) :: ("known" : Str) :: ("question" : Str) :: ("segments" : Str) :: ("shown" : Str) :: ("remove" : Str) :: ("insert" : Str) :: ("split" : Str) :: ("reverse" : Str) :: [])
abbrev csN  : List (Nat × Addr) := []
set_option maxHeartbeats 0 in
theorem fin_all {Pr : Program} {w : World} {K : PySem.W.Frag} {h : Heap} {mg : Str -> Option Value} {fa : Addr} (run : ∀ ns : List Int, ns.length <= 63 -> ∃ h, runFd cls (callN cls fds 1000000 40) 1000000 f155 [.w (.scr ns)] [] = .ok (.w (.bl true)) h) (X : K.In h) (G : h.Ns mainGlobals mg) (hfa : mg "law" = some (.ref fa))
  (z_ValueError : PySem.W.nsIn K mainGlobals "ValueError" = some none)
  (z_int : PySem.W.nsIn K mainGlobals "int" = some none)
  (z_isinstance : PySem.W.nsIn K mainGlobals "isinstance" = some none)
  (z_len : PySem.W.nsIn K mainGlobals "len" = some none)
  (z_list : PySem.W.nsIn K mainGlobals "list" = some none)
  (z_max : PySem.W.nsIn K mainGlobals "max" = some none)
  (z_range : PySem.W.nsIn K mainGlobals "range" = some none)
  (z_repr : PySem.W.nsIn K mainGlobals "repr" = some none)
  (t_int : BtOk K (.type "int") [.int])
  (t_bool : BtOk K (.type "bool") [.bool])
  (t_str : BtOk K (.type "str") [.str])
  (t_list : BtOk K (.type "list") [.list])
  (t_tuple : BtOk K (.type "tuple") [.tuple])
  (g : PySem.W.specialIn K (.builtin "object.__class__") "__get__" = some (some (.builtin "getset_descriptor.__get__")) ∧ PySem.W.takesIn K (.builtin "object.__class__") = some true)
  (e150 : TopDef K mg "_law_purse" s150 ["_law_script", "_law_at"])
  (e151 : TopDef K mg "_law_draw" s151 ["_law_purse_here", "_law_many"])
  (e152 : TopDef K mg "_law_pick" s152 ["_law_purse_here", "_law_items"])
  (e153 : TopDef K mg "_law_classes" s153 ["_law_error"])
  (e154 : TopDef K mg "_law_right" s154 ["_law_errors", "_law_given"])
  (e155 : TopDef K mg "law" s155 ["_law_script"])
  (kx : ∃ C : Nat -> Addr, ClsX Pr K mg C)
  : ∃ fd : FuncData, (∀ (s : Shared) (u : Value), BindsTo s fd ⟨[u], []⟩ [("_law_script", u)]) ∧ ∀ base : Heap, K.In base -> base.Ns mainGlobals mg -> FnG Pr w K mg base CX0 82 fa fd ["_law_script"] (spLaw K) := by
 obtain ⟨a150, d150, M150, F150, B150, k150, Z150⟩ := e150
 obtain ⟨a151, d151, M151, F151, B151, k151, Z151⟩ := e151
 obtain ⟨a152, d152, M152, F152, B152, k152, Z152⟩ := e152
 obtain ⟨a153, d153, M153, F153, B153, k153, Z153⟩ := e153
 obtain ⟨a154, d154, M154, F154, B154, k154, Z154⟩ := e154
 obtain ⟨a155, d155, M155, F155, B155, k155, Z155⟩ := e155
 cases M155.symm.trans hfa
 have nd : flds.Nodup := by decide +kernel
 have ow : AllP (fun _ C => OwnK K C) (csN ) := trivial
 let ad : Nat -> Addr := fun i => match i with | 150 => a150 | 151 => a151 | 152 => a152 | 153 => a153 | 154 => a154 | 155 => fa | _ => 0
 let fdt : Nat -> FuncData := fun i => match i with | 150 => d150 | 151 => d151 | 152 => d152 | 153 => d153 | 154 => d154 | 155 => d155 | _ => d155
 obtain ⟨CX, kx⟩ := kx
 have hx7 : ∀ c, c < 7 -> nmOwn (csN ) c = false := by
  intro c hc
  first
   | (simp [nmOwn]; done)
   | (simp [nmOwn]; omega)
 have kn : KnX Pr K mg (nmOf (csN ) flds (xsOf CX)) := kx.kn hx7
 have T : Txt K mg (nmOf (csN ) flds (xsOf CX)) ad fdt psN := {
  m_ValueError := PySem.W.mg_none_of X G z_ValueError
  m_int := PySem.W.mg_none_of X G z_int
  m_isinstance := PySem.W.mg_none_of X G z_isinstance
  m_len := PySem.W.mg_none_of X G z_len
  m_list := PySem.W.mg_none_of X G z_list
  m_max := PySem.W.mg_none_of X G z_max
  m_range := PySem.W.mg_none_of X G z_range
  m_repr := PySem.W.mg_none_of X G z_repr
  m__law_purse := M150
  k_150 := k150
  b_150 := B150
  m__law_draw := M151
  k_151 := k151
  b_151 := B151
  m__law_pick := M152
  k_152 := k152
  b_152 := B152
  m__law_classes := M153
  k_153 := k153
  b_153 := B153
  m__law_right := M154
  k_154 := k154
  b_154 := B154
  m_law := M155
  k_155 := k155
  b_155 := B155
  i_int := isi_mk t_int g ow trivial
  i_bool := isi_mk t_bool g ow trivial
  i_str := isi_mk t_str g ow trivial
  i_list := isi_mk t_list g ow trivial
  i_tuple := isi_mk t_tuple g ow trivial
  X_TiedFirstsError := kx.m0
  x_TiedFirstsError := kx.is0 hx7
  X_InvalidScheme := kx.m1
  x_InvalidScheme := kx.ist hx7 (by decide) (by decide)
  X_InvalidFact := kx.m2
  x_InvalidFact := kx.ist hx7 (by decide) (by decide)
  X_InvalidColumns := kx.m3
  x_InvalidColumns := kx.ist hx7 (by decide) (by decide)
  X_InvalidTable := kx.m4
  x_InvalidTable := kx.ist hx7 (by decide) (by decide)
  X_InvalidQuestion := kx.m5
  x_InvalidQuestion := kx.ist hx7 (by decide) (by decide)
  X_InvalidPlace := kx.m6
  x_InvalidPlace := kx.ist hx7 (by decide) (by decide)
  x_ValueError := kx.isv hx7
 }
 refine ⟨d155, fun s u => Z155 s [u] rfl, fun base hb hn => ?_⟩
 have all : ∀ d i, Cal Pr w K mg base CX0 (nmOf (csN ) flds (xsOf CX)) cls 1000000 (callN cls fds 1000000 d) (2 * d) i (ad i) (fdt i) (psN i) := cal_all fun d hC i => match i with
  | 0 => .inl (dead_no (.inl rfl))
  | 1 => .inl (dead_no (.inl rfl))
  | 2 => .inl (dead_no (.inl rfl))
  | 3 => .inl (dead_no (.inl rfl))
  | 4 => .inl (dead_no (.inl rfl))
  | 5 => .inl (dead_no (.inl rfl))
  | 6 => .inl (dead_no (.inl rfl))
  | 7 => .inl (dead_no (.inl rfl))
  | 8 => .inl (dead_no (.inl rfl))
  | 9 => .inl (dead_no (.inl rfl))
  | 10 => .inl (dead_no (.inl rfl))
  | 11 => .inl (dead_no (.inl rfl))
  | 12 => .inl (dead_no (.inl rfl))
  | 13 => .inl (dead_no (.inl rfl))
  | 14 => .inl (dead_no (.inl rfl))
  | 15 => .inl (dead_no (.inl rfl))
  | 16 => .inl (dead_no (.inl rfl))
  | 17 => .inl (dead_no (.inl rfl))
  | 18 => .inl (dead_no (.inl rfl))
  | 19 => .inl (dead_no (.inl rfl))
  | 20 => .inl (dead_no (.inl rfl))
  | 21 => .inl (dead_no (.inl rfl))
  | 22 => .inl (dead_no (.inl rfl))
  | 23 => .inl (dead_no (.inl rfl))
  | 24 => .inl (dead_no (.inl rfl))
  | 25 => .inl (dead_no (.inl rfl))
  | 26 => .inl (dead_no (.inl rfl))
  | 27 => .inl (dead_no (.inl rfl))
  | 28 => .inl (dead_no (.inl rfl))
  | 29 => .inl (dead_no (.inl rfl))
  | 30 => .inl (dead_no (.inl rfl))
  | 31 => .inl (dead_no (.inl rfl))
  | 32 => .inl (dead_no (.inl rfl))
  | 33 => .inl (dead_no (.inl rfl))
  | 34 => .inl (dead_no (.inl rfl))
  | 35 => .inl (dead_no (.inl rfl))
  | 36 => .inl (dead_no (.inl rfl))
  | 37 => .inl (dead_no (.inl rfl))
  | 38 => .inl (dead_no (.inl rfl))
  | 39 => .inl (dead_no (.inl rfl))
  | 40 => .inl (dead_no (.inl rfl))
  | 41 => .inl (dead_no (.inl rfl))
  | 42 => .inl (dead_no (.inl rfl))
  | 43 => .inl (dead_no (.inl rfl))
  | 44 => .inl (dead_no (.inl rfl))
  | 45 => .inl (dead_no (.inl rfl))
  | 46 => .inl (dead_no (.inl rfl))
  | 47 => .inl (dead_no (.inl rfl))
  | 48 => .inl (dead_no (.inl rfl))
  | 49 => .inl (dead_no (.inl rfl))
  | 50 => .inl (dead_no (.inl rfl))
  | 51 => .inl (dead_no (.inl rfl))
  | 52 => .inl (dead_no (.inl rfl))
  | 53 => .inl (dead_no (.inl rfl))
  | 54 => .inl (dead_no (.inl rfl))
  | 55 => .inl (dead_no (.inl rfl))
  | 56 => .inl (dead_no (.inl rfl))
  | 57 => .inl (dead_no (.inl rfl))
  | 58 => .inl (dead_no (.inl rfl))
  | 59 => .inl (dead_no (.inl rfl))
  | 60 => .inl (dead_no (.inl rfl))
  | 61 => .inl (dead_no (.inl rfl))
  | 62 => .inl (dead_no (.inl rfl))
  | 63 => .inl (dead_no (.inl rfl))
  | 64 => .inl (dead_no (.inl rfl))
  | 65 => .inl (dead_no (.inl rfl))
  | 66 => .inl (dead_no (.inl rfl))
  | 67 => .inl (dead_no (.inl rfl))
  | 68 => .inl (dead_no (.inl rfl))
  | 69 => .inl (dead_no (.inl rfl))
  | 70 => .inl (dead_no (.inl rfl))
  | 71 => .inl (dead_no (.inl rfl))
  | 72 => .inl (dead_no (.inl rfl))
  | 73 => .inl (dead_no (.inl rfl))
  | 74 => .inl (dead_no (.inl rfl))
  | 75 => .inl (dead_no (.inl rfl))
  | 76 => .inl (dead_no (.inl rfl))
  | 77 => .inl (dead_no (.inl rfl))
  | 78 => .inl (dead_no (.inl rfl))
  | 79 => .inl (dead_no (.inl rfl))
  | 80 => .inl (dead_no (.inl rfl))
  | 81 => .inl (dead_no (.inl rfl))
  | 82 => .inl (dead_no (.inl rfl))
  | 83 => .inl (dead_no (.inl rfl))
  | 84 => .inl (dead_no (.inl rfl))
  | 85 => .inl (dead_no (.inl rfl))
  | 86 => .inl (dead_no (.inl rfl))
  | 87 => .inl (dead_no (.inl rfl))
  | 88 => .inl (dead_no (.inl rfl))
  | 89 => .inl (dead_no (.inl rfl))
  | 90 => .inl (dead_no (.inl rfl))
  | 91 => .inl (dead_no (.inl rfl))
  | 92 => .inl (dead_no (.inl rfl))
  | 93 => .inl (dead_no (.inl rfl))
  | 94 => .inl (dead_no (.inl rfl))
  | 95 => .inl (dead_no (.inl rfl))
  | 96 => .inl (dead_no (.inl rfl))
  | 97 => .inl (dead_no (.inl rfl))
  | 98 => .inl (dead_no (.inl rfl))
  | 99 => .inl (dead_no (.inl rfl))
  | 100 => .inl (dead_no (.inl rfl))
  | 101 => .inl (dead_no (.inl rfl))
  | 102 => .inl (dead_no (.inl rfl))
  | 103 => .inl (dead_no (.inl rfl))
  | 104 => .inl (dead_no (.inl rfl))
  | 105 => .inl (dead_no (.inl rfl))
  | 106 => .inl (dead_no (.inl rfl))
  | 107 => .inl (dead_no (.inl rfl))
  | 108 => .inl (dead_no (.inl rfl))
  | 109 => .inl (dead_no (.inl rfl))
  | 110 => .inl (dead_no (.inl rfl))
  | 111 => .inl (dead_no (.inl rfl))
  | 112 => .inl (dead_no (.inl rfl))
  | 113 => .inl (dead_no (.inl rfl))
  | 114 => .inl (dead_no (.inl rfl))
  | 115 => .inl (dead_no (.inl rfl))
  | 116 => .inl (dead_no (.inl rfl))
  | 117 => .inl (dead_no (.inl rfl))
  | 118 => .inl (dead_no (.inl rfl))
  | 119 => .inl (dead_no (.inl rfl))
  | 120 => .inl (dead_no (.inl rfl))
  | 121 => .inl (dead_no (.inl rfl))
  | 122 => .inl (dead_no (.inl rfl))
  | 123 => .inl (dead_no (.inl rfl))
  | 124 => .inl (dead_no (.inl rfl))
  | 125 => .inl (dead_no (.inl rfl))
  | 126 => .inl (dead_no (.inl rfl))
  | 127 => .inl (dead_no (.inl rfl))
  | 128 => .inl (dead_no (.inl rfl))
  | 129 => .inl (dead_no (.inl rfl))
  | 130 => .inl (dead_no (.inl rfl))
  | 131 => .inl (dead_no (.inl rfl))
  | 132 => .inl (dead_no (.inl rfl))
  | 133 => .inl (dead_no (.inl rfl))
  | 134 => .inl (dead_no (.inl rfl))
  | 135 => .inl (dead_no (.inl rfl))
  | 136 => .inl (dead_no (.inl rfl))
  | 137 => .inl (dead_no (.inl rfl))
  | 138 => .inl (dead_no (.inl rfl))
  | 139 => .inl (dead_no (.inl rfl))
  | 140 => .inl (dead_no (.inl rfl))
  | 141 => .inl (dead_no (.inl rfl))
  | 142 => .inl (dead_no (.inl rfl))
  | 143 => .inl (dead_no (.inl rfl))
  | 144 => .inl (dead_no (.inl rfl))
  | 145 => .inl (dead_no (.inl rfl))
  | 146 => .inl (dead_no (.inl rfl))
  | 147 => .inl (dead_no (.inl rfl))
  | 148 => .inl (dead_no (.inl rfl))
  | 149 => .inl (dead_no (.inl rfl))
  | 150 => cal_one (i := 150) (fd := f150) rfl (P.fnF F150 sc150 rfl fun cdv A outer s H E hr => b150 T hC hr)
  | 151 => cal_one (i := 151) (fd := f151) rfl (P.fnF F151 sc151 rfl fun cdv A outer s H E hr => b151 T hC hr)
  | 152 => cal_one (i := 152) (fd := f152) rfl (P.fnF F152 sc152 rfl fun cdv A outer s H E hr => b152 T hC hr)
  | 153 => cal_one (i := 153) (fd := f153) rfl (P.fnF F153 sc153 rfl fun cdv A outer s H E hr => b153 T hC hr)
  | 154 => cal_one (i := 154) (fd := f154) rfl (P.fnF F154 sc154 rfl fun cdv A outer s H E hr => b154 T hC kn hr)
  | 155 => .inl (dead_no (.inl rfl))
  | i + 156 => .inl (dead_no (.inr rfl))
 exact law_sp (P.fnF F155 sc155 rfl fun cdv A outer s H E hr => b155 T (all 40) kn (by decide) hr) run
end Tf
namespace Tf
def Ret {α : Type} (x : Res α) (Q : α -> Hh -> Prop) : Prop := match x with
 | .ok a h => Q a h
 | _ => False
theorem ret_ok {α : Type} {a : α} {h : Hh} {Q : α -> Hh -> Prop} : Ret (.ok a h) Q = Q a h := id rfl
theorem Ret.imp {α : Type} {x : Res α} {Q Q' : α -> Hh -> Prop} (r : Ret x Q) (i : ∀ a h, Q a h -> Q' a h) : Ret x Q' := by
 cases x with
 | ok a h => exact i _ _ r
 | ex c v => exact r
 | no => exact r
theorem Ret.eq {α : Type} {x : Res α} {a : α} {h : Hh} (r : Ret x fun b g => b = a ∧ g = h) : x = .ok a h := by
 cases x with
 | ok b g => obtain ⟨rfl, rfl⟩ := r; rfl
 | ex c v => exact r.elim
 | no => exact r.elim
section
variable {cl : Cls} {call : Call} {env : Env} {h : Hh} {Q : R -> Hh -> Prop} {Qs : List R -> Hh -> Prop} {Qb : Bool -> Hh -> Prop}
def bB (r : R) (f : Prop) (t : Prop) : Prop := match r with
 | .w (.bl true) => t
 | .w (.bl false) => f
 | _ => False
theorem bB_t {f t : Prop} : bB (.w (.bl true)) f t = t := id rfl
theorem bB_f {f t : Prop} : bB (.w (.bl false)) f t = f := id rfl
theorem bB_b {b : Bool} {f t : Prop} : bB (.w (.bl b)) f t = if b = true then t else f := by cases b <;> rfl
theorem R_c {w : W} : Ret (ev cl call (.c w) env h) Q = Q (.w w) h := by rw [ev]; rfl
def slot (env : Env) (i : Nat) (f : R -> Prop) : Prop := match env[i]? with
 | some (some r) => f r
 | _ => False
theorem R_var {i : Nat} : Ret (ev cl call (.v i) env h) Q = slot env i (fun r => Q r h) := by
 rw [ev]
 unfold slot
 cases env[i]? with
 | none => rfl
 | some o => cases o <;> rfl
theorem slot0 {r : R} {env : Env} {f : R -> Prop} : slot (some r :: env) 0 f = f r := id rfl
theorem slotS {o : Option R} {env : Env} {i : Nat} {f : R -> Prop} : slot (o :: env) (i + 1) f = slot env i f := id rfl
theorem R_op {o : Op} {es : List E} : Ret (ev cl call (.op o es) env h) Q = Ret (evs cl call es env h) fun rs h' => Ret (opC cl call o rs h') Q := by
 rw [ev]
 cases evs cl call es env h <;> rfl
theorem R_call {m : Md} {f : Nat} {es : List E} : Ret (ev cl call (.call m f es) env h) Q = Ret (evs cl call es env h) fun rs h' => Ret (call m f rs h') Q := by
 rw [ev]
 cases evs cl call es env h <;> rfl
theorem R_nil : Ret (evs cl call [] env h) Qs = Qs [] h := by rw [evs]; rfl
theorem R_cons {e : E} {es : List E} : Ret (evs cl call (e :: es) env h) Qs = Ret (ev cl call e env h) fun r h' => Ret (evs cl call es env h') fun rs h'' => Qs (r :: rs) h'' := by
 rw [evs]
 cases ev cl call e env h with
 | ok r h' => dsimp only [Ret]; cases evs cl call es env h' <;> rfl
 | _ => rfl
theorem R_and {a b : E} : Ret (ev cl call (.and a b) env h) Q = Ret (ev cl call a env h) fun r h' => bB r (Q (.w (.bl false)) h') (Ret (ev cl call b env h') Q) := by
 rw [ev]
 cases ev cl call a env h with
 | ok r h' => cases r with
  | loc n => rfl
  | w w => cases w with
   | bl b => cases b <;> rfl
   | _ => rfl
 | _ => rfl
theorem R_or {a b : E} : Ret (ev cl call (.or a b) env h) Q = Ret (ev cl call a env h) fun r h' => bB r (Ret (ev cl call b env h') Q) (Q (.w (.bl true)) h') := by
 rw [ev]
 cases ev cl call a env h with
 | ok r h' => cases r with
  | loc n => rfl
  | w w => cases w with
   | bl b => cases b <;> rfl
   | _ => rfl
 | _ => rfl
theorem R_ite {c a b : E} : Ret (ev cl call (.ite c a b) env h) Q = Ret (ev cl call c env h) fun r h' => bB r (Ret (ev cl call b env h') Q) (Ret (ev cl call a env h') Q) := by
 rw [ev]
 cases ev cl call c env h with
 | ok r h' => cases r with
  | loc n => rfl
  | w w => cases w with
   | bl b => cases b <;> rfl
   | _ => rfl
 | _ => rfl
theorem R_chain {o p : Op} {a b c : E} : Ret (ev cl call (.chain o p a b c) env h) Q = Ret (ev cl call a env h) fun ra h1 => Ret (ev cl call b env h1) fun rb h2 => Ret (opR o [ra, rb] h2) fun r h3 => bB r (Q (.w (.bl false)) h3) (Ret (ev cl call c env h3) fun rc h4 => Ret (opR p [rb, rc] h4) Q) := by
 rw [ev]
 cases ev cl call a env h with
 | ok ra h1 =>
  dsimp only [Ret]
  cases ev cl call b env h1 with
  | ok rb h2 =>
   dsimp only [Ret]
   cases opR o [ra, rb] h2 with
   | ok r h3 => cases r with
    | loc n => rfl
    | w w => cases w with
     | bl b =>
      cases b with
      | false => rfl
      | true =>
       dsimp only [bB]
       cases ev cl call c env h3 <;> rfl
     | _ => rfl
   | _ => rfl
  | _ => rfl
 | _ => rfl
theorem R_meth {f : Nat} {o : E} {es : List E} : Ret (ev cl call (.meth f o es) env h) Q = Ret (ev cl call o env h) fun r h1 => match methF cl f r h1 with
  | some g => Ret (evs cl call es env h1) fun rs h2 => Ret (call .pu g (r :: rs) h2) Q
  | none => False := by
 rw [ev]
 cases ev cl call o env h with
 | ok r h1 =>
  dsimp only [Ret]
  cases methF cl f r h1 with
  | none => rfl
  | some g =>
   cases evs cl call es env h1 <;> rfl
 | _ => rfl
theorem R_methK {f : Nat} {o : E} {es : List E} : Ret (ev cl call (.methK f o es) env h) Q = Ret (ev cl call o env h) fun r h1 => match methF cl f r h1 with
  | some g => Ret (evs cl call es env h1) fun rs h2 => Ret (call .kp g (r :: rs) h2) Q
  | none => False := by
 rw [ev]
 cases ev cl call o env h with
 | ok r h1 =>
  dsimp only [Ret]
  cases methF cl f r h1 with
  | none => rfl
  | some g =>
   cases evs cl call es env h1 <;> rfl
 | _ => rfl
theorem R_al {e : E} : Ret (ev cl call (.al e) env h) Q = Ret (ev cl call e env h) fun r h' => match r with
  | .w (.lst ws) => Q (.loc h'.length) (h' ++ [.lst (ws.map .w)])
  | .w (.dct ks vs) => Q (.loc h'.length) (h' ++ [.dct ks (vs.map .w)])
  | _ => False := by
 rw [ev]
 cases ev cl call e env h with
 | ok r h' => cases r with
  | loc n => rfl
  | w w => cases w <;> rfl
 | _ => rfl
theorem R_mut {o : Op} {i : Nat} {es : List E} : Ret (ev cl call (.mut o i es) env h) Q = slot env i fun r => match r with
  | .loc l => kindOk o h[l]? = true ∧ Ret (evs cl call es env h) fun rs h1 => Ret (opR o (.loc l :: rs) h1) Q
  | _ => False := by
 rw [ev]
 unfold slot
 cases env[i]? with
 | none => rfl
 | some x => cases x with
  | none => rfl
  | some r => cases r with
   | w w => rfl
   | loc l =>
    dsimp only
    by_cases k : kindOk o h[l]? = true
    ·simp only [k, true_and]
     cases evs cl call es env h <;> rfl
    ·rw [if_neg k]
     exact propext ⟨fun z => z.elim, fun z => (k z.1).elim⟩
theorem R_mutE {o : Op} {t : E} {es : List E} : Ret (ev cl call (.mutE o t es) env h) Q = Ret (ev cl call t env h) fun r h0 => match r with
  | .loc l => kindOk o h0[l]? = true ∧ Ret (evs cl call es env h0) fun rs h1 => Ret (opR o (.loc l :: rs) h1) Q
  | _ => False := by
 rw [ev]
 cases ev cl call t env h with
 | ok r h0 => cases r with
  | w w => rfl
  | loc l =>
   dsimp only [Ret]
   by_cases k : kindOk o h0[l]? = true
   ·simp only [k, true_and]
    cases evs cl call es env h0 <;> rfl
   ·simp_all
 | _ => rfl
theorem R_tnil : Ret (tests cl call [] env h) Qb = Qb true h := by rw [tests]; rfl
theorem R_tcons {e : E} {es : List E} : Ret (tests cl call (e :: es) env h) Qb = Ret (ev cl call e env h) fun r h' => bB r (Qb false h') (Ret (tests cl call es env h') Qb) := by
 rw [tests]
 cases ev cl call e env h with
 | ok r h' => cases r with
  | loc n => rfl
  | w w => cases w with
   | bl b => cases b <;> rfl
   | _ => rfl
 | _ => rfl
def wkP (k : IK) (rs : List R) (h : Hh) (f : List W -> List (Nat × O) -> Prop) : Prop := match walk k rs h with
 | some (ws, st) => f ws st
 | none => False
def lcBody (cl : Cls) (call : Call) (cs : List E) (e : E) : Env -> Hh -> Res (List W) := fun env' h2 => match tests cl call cs env' h2 with
 | .ok true h3 => asW (ev cl call e env' h3)
 | .ok false h3 => .ok [] h3
 | _ => .no
theorem R_lc {t : T} {k : IK} {its cs : List E} {e : E} : Ret (ev cl call (.lc t k its cs e) env h) Q = Ret (evs cl call its env h) fun rs h1 => wkP k rs h1 fun ws st =>
  Ret (lcLoop t (wipe (slotsT t) env) st (lcBody cl call cs e) ws h1) fun xs h4 => xs.length <= sizeMax ∧ Q (.w (.lst xs)) h4 := by
 rw [ev]
 cases evs cl call its env h with
 | ok rs h1 =>
  dsimp only [Ret]
  unfold wkP
  cases walk k rs h1 with
  | none => rfl
  | some p =>
   obtain ⟨ws, st⟩ := p
   show Ret (match lcLoop t (wipe (slotsT t) env) st (lcBody cl call cs e) ws h1 with
    | .ok xs h4 => if xs.length <= sizeMax then .ok (.w (.lst xs)) h4 else .no
    | _ => .no) Q = _
   dsimp only [Ret]
   cases lcLoop t (wipe (slotsT t) env) st (lcBody cl call cs e) ws h1 with
   | ok xs h4 =>
    dsimp only
    by_cases k : xs.length <= sizeMax
    ·simp_all
    ·rw [if_neg k]; simp only [k, false_and]
   | _ => rfl
 | _ => rfl
theorem R_body {cs : List E} {e : E} {Ql : List W -> Hh -> Prop} : Ret (lcBody cl call cs e env h) Ql = Ret (tests cl call cs env h) fun b h3 => if b = true then Ret (ev cl call e env h3) (fun r h4 => match r with | .w w => Ql [w] h4 | _ => False) else Ql [] h3 := by
 unfold lcBody
 cases tests cl call cs env h with
 | ok b h3 => cases b with
  | false => rfl
  | true =>
   dsimp only [Ret]
   cases ev cl call e env h3 with
   | ok r h4 => cases r <;> rfl
   | _ => rfl
 | _ => rfl
end
section
variable {cl : Cls} {call : Call} {fuel : Nat} {env : Env} {h : Hh} {Q : Out -> Hh -> Prop}
def thenX (f : Env -> Hh -> Prop) (Q : Out -> Hh -> Prop) (o : Out) (h : Hh) : Prop := match o.fl with
 | .nx => f o.env h
 | _ => Q o h
theorem thenX_nx {f : Env -> Hh -> Prop} {e : Env} : thenX f Q ⟨.nx, e⟩ h = f e h := id rfl
theorem thenX_rt {f : Env -> Hh -> Prop} {e : Env} {r : R} : thenX f Q ⟨.rt r, e⟩ h = Q ⟨.rt r, e⟩ h := id rfl
theorem thenX_bk {f : Env -> Hh -> Prop} {e : Env} : thenX f Q ⟨.bk, e⟩ h = Q ⟨.bk, e⟩ h := id rfl
theorem X_nil : Ret (execs cl call fuel [] env h) Q = Q ⟨.nx, env⟩ h := by rw [execs]; rfl
theorem X_cons {s : S} {ss : List S} : Ret (execs cl call fuel (s :: ss) env h) Q = Ret (exec cl call fuel s env h) (thenX (fun env' h' => Ret (execs cl call fuel ss env' h') Q) Q) := by
 rw [execs]
 cases exec cl call fuel s env h with
 | ok o h' =>
  obtain ⟨fl, e⟩ := o
  cases fl <;> rfl
 | _ => rfl
def setP (t : T) (r : R) (env : Env) (f : Env -> Prop) : Prop := match setT t r env with
 | some e => f e
 | none => False
theorem setP_n {i : Nat} {r : R} {f : Env -> Prop} : setP (.n i) r env f = f (env.set i (some r)) := id rfl
theorem X_asg {t : T} {e : E} : Ret (exec cl call fuel (.asg t e) env h) Q = Ret (ev cl call e env h) fun r h' => setP t r env fun env' => Q ⟨.nx, env'⟩ h' := by
 rw [exec]
 cases ev cl call e env h with
 | ok r h' => dsimp only [Ret]; unfold setP; cases setT t r env <;> rfl
 | _ => rfl
theorem X_par {is : List Nat} {es : List E} : Ret (exec cl call fuel (.par is es) env h) Q = Ret (evs cl call es env h) fun rs h' => is.length = rs.length ∧ Q ⟨.nx, putAll is rs env⟩ h' := by
 rw [exec]
 cases evs cl call es env h with
 | ok rs h' =>
  dsimp only [Ret]
  by_cases k : is.length = rs.length <;> simp_all
 | _ => rfl
theorem X_exp {e : E} : Ret (exec cl call fuel (.exp e) env h) Q = Ret (ev cl call e env h) fun _ h' => Q ⟨.nx, env⟩ h' := by
 rw [exec]
 cases ev cl call e env h <;> rfl
theorem X_ret {e : E} : Ret (exec cl call fuel (.ret e) env h) Q = Ret (ev cl call e env h) fun r h' => Q ⟨.rt r, env⟩ h' := by
 rw [exec]
 cases ev cl call e env h <;> rfl
theorem X_pass : Ret (exec cl call fuel .pass env h) Q = Q ⟨.nx, env⟩ h := by rw [exec]; rfl
theorem X_brk : Ret (exec cl call fuel .brk env h) Q = Q ⟨.bk, env⟩ h := by rw [exec]; rfl
theorem X_ifs {c : E} {a b : List S} : Ret (exec cl call fuel (.ifs c a b) env h) Q = Ret (ev cl call c env h) fun r h' => bB r (Ret (execs cl call fuel b env h') Q) (Ret (execs cl call fuel a env h') Q) := by
 rw [exec]
 cases ev cl call c env h with
 | ok r h' => cases r with
  | loc n => rfl
  | w w => cases w with
   | bl b => cases b <;> rfl
   | _ => rfl
 | _ => rfl
theorem X_sub {o i e : E} : Ret (exec cl call fuel (.sub o i e) env h) Q = Ret (ev cl call e env h) fun r h1 => Ret (ev cl call o env h1) fun ro h2 => Ret (ev cl call i env h2) fun ri h3 => match setSub ro ri r h3 with
  | some h4 => Q ⟨.nx, env⟩ h4
  | none => False := by
 rw [exec]
 cases ev cl call e env h with
 | ok r h1 =>
  dsimp only [Ret]
  cases ev cl call o env h1 with
  | ok ro h2 =>
   dsimp only [Ret]
   cases ev cl call i env h2 with
   | ok ri h3 => dsimp only [Ret]; cases setSub ro ri r h3 <;> rfl
   | _ => rfl
  | _ => rfl
 | _ => rfl
theorem X_fld {o e : E} {f : Nat} : Ret (exec cl call fuel (.fld o f e) env h) Q = Ret (ev cl call e env h) fun r h1 => Ret (ev cl call o env h1) fun ro h2 => match setFld ro f r h2 with
  | some h3 => Q ⟨.nx, env⟩ h3
  | none => False := by
 rw [exec]
 cases ev cl call e env h with
 | ok r h1 =>
  dsimp only [Ret]
  cases ev cl call o env h1 with
  | ok ro h2 => dsimp only [Ret]; cases setFld ro f r h2 <;> rfl
  | _ => rfl
 | _ => rfl
theorem X_for {t : T} {k : IK} {its : List E} {b : List S} : Ret (exec cl call fuel (.for t k its b) env h) Q = Ret (evs cl call its env h) fun rs h1 => wkP k rs h1 fun ws st => Ret (forLoop t st (execs cl call fuel b) ws env h1) Q := by
 rw [exec]
 cases evs cl call its env h with
 | ok rs h1 =>
  dsimp only [Ret]
  unfold wkP
  cases walk k rs h1 <;> simp_all
 | _ => rfl
theorem X_whl {c : E} {b : List S} : Ret (exec cl call fuel (.whl c b) env h) Q = Ret (whlLoop (ev cl call c) (execs cl call fuel b) fuel env h) Q := by rw [exec]
end
section
variable {cl : Cls} {fds : List Fd} {fuel : Nat}
theorem run_of {call : Call} {fd : Fd} {as : List R} {h : Hh} {Q : R -> Hh -> Prop} (hn : as.length = fd.np) (q : Ret (execs cl call fuel fd.body (as.map some ++ List.replicate (fd.ns - fd.np) none) h) fun o h' => match o.fl with
  | .nx => Q (.w .non) h'
  | .rt r => Q r h'
  | .bk => False) : Ret (runFd cl call fuel fd as h) Q := by
 unfold runFd
 rw [if_pos hn]
 cases e : execs cl call fuel fd.body (as.map some ++ List.replicate (fd.ns - fd.np) none) h with
 | ok o h' =>
  rw [e] at q
  obtain ⟨fl, en⟩ := o
  cases fl <;> exact q
 | ex c v => rw [e] at q; exact q
 | no => rw [e] at q; exact q
theorem hand_w {h : Hh} : ∀ {rs : List R} {ws : List W} {n : Nat}, allW rs = some ws -> hand rs h n = some ([], rs, [])
 | [], ws, n, e => rfl
 | .loc l :: rs, ws, n, e => by unfold allW at e; cases e
 | .w w :: rs, ws, n, e => by
  unfold allW at e
  cases e1 : allW rs with
  | none => simp_all
  | some us =>
   unfold hand
   rw [hand_w e1]
theorem call_l {d f l : Nat} {fd : Fd} {rs : List R} {ws : List W} {h : Hh} {o : O} {Q : R -> Hh -> Prop} (e : fds[f]? = some fd) (hw : allW rs = some ws) (hl : h[l]? = some o) (fo : flatO o = true)
  (r : Ret (runFd cl (callN cl fds fuel d) fuel fd (.loc 0 :: rs) [o]) fun r h' => ∃ o' w, h'[0]? = some o' ∧ flatO o' = true ∧ fz h' 1 20 r = some w ∧ Q (.w w) (h.set l o')) : Ret (callN cl fds fuel (d + 1) .pu f (.loc l :: rs) h) Q := by
 rw [callN, e]
 dsimp only [runBy]
 unfold hand
 rw [hl]
 dsimp only
 rw [if_pos fo, hand_w hw]
 simp only [List.contains_nil, Bool.false_eq_true, if_false]
 cases e1 : runFd cl (callN cl fds fuel d) fuel fd (.loc 0 :: rs) [o] with
 | ex c v => rw [e1] at r; exact r.elim
 | no => rw [e1] at r; exact r
 | ok r' h' =>
  rw [e1] at r
  obtain ⟨o', w, e2, e3, e4, q⟩ := r
  unfold after
  cases h' with
  | nil => cases e2
  | cons a t =>
   cases e2
   simp only [List.length_cons, List.length_nil, List.take_succ_cons, List.all_cons, e3]
   rw [e4]
   exact q
end
end Tf
namespace Tf
section
variable {cl : Cls} {call : Call} {env : Env} {h : Hh} {Q : R -> Hh -> Prop} {Ql : List W -> Hh -> Prop}
theorem opR_w {o : Op} {rs : List R} {ws : List W} (e : allW rs = some ws) : Ret (opR o rs h) Q = ∃ w, opW o ws = some w ∧ Q (.w w) h := by
 unfold opR
 rw [e]
 dsimp only
 cases opW o ws with
 | none => exact propext ⟨fun z => z.elim, fun ⟨w, z, _⟩ => by cases z⟩
 | some w => exact propext ⟨fun z => ⟨w, rfl, z⟩, fun ⟨w', z, q⟩ => by cases z; exact q⟩
theorem opR_1 {o : Op} {rs : List R} {ws : List W} {w : W} (e : allW rs = some ws) (e2 : opW o ws = some w) : Ret (opR o rs h) Q = Q (.w w) h := by
 rw [opR_w e]
 simp_all
theorem opC_R {o : Op} {rs : List R} (h1 : o ≠ .eq) (h2 : o ≠ .ne) : opC cl call o rs h = opR o rs h := by
 unfold opC
 simp_all
theorem opC_1 {o : Op} {rs : List R} {ws : List W} {w : W} (e : allW rs = some ws) (e2 : opW o ws = some w) (h1 : o ≠ .eq := by intro z; cases z) (h2 : o ≠ .ne := by intro z; cases z) : Ret (opC cl call o rs h) Q = Q (.w w) h := by
 rw [opC_R h1 h2]; exact opR_1 e e2
theorem dep_cls {n : Nat} {a : W} (d : depthOk n a = true) : clsOf h (.w a) = none := by cases a <;> first | rfl | (simp [depthOk] at d)
theorem O_not {b : Bool} : Ret (opC cl call .not [.w (.bl b)] h) Q = Q (.w (.bl (!b))) h := opC_1 rfl rfl
theorem O_eq {a b : W} (ha : depthOk 40 a = true) (hb : depthOk 40 b = true) : Ret (opC cl call .eq [.w a, .w b] h) Q = Q (.w (.bl (weq a b))) h := by
 unfold opC
 dsimp only
 rw [dep_cls ha, dep_cls hb]
 have e2 : opW .eq [a, b] = some (.bl (weq a b)) := by
  show op_eq [a, b] = _
  cases a <;> first | (simp [depthOk] at ha; done) | (unfold op_eq; dsimp only; rw [ha, hb]; rfl)
 exact opR_1 rfl e2
theorem O_ne {a b : W} (ha : depthOk 40 a = true) (hb : depthOk 40 b = true) : Ret (opC cl call .ne [.w a, .w b] h) Q = Q (.w (.bl (!weq a b))) h := by
 unfold opC
 dsimp only
 rw [dep_cls ha, dep_cls hb]
 have e2 : opW .ne [a, b] = some (.bl (!weq a b)) := by
  show op_ne [a, b] = _
  cases a <;> first | (simp [depthOk] at ha; done) | (unfold op_ne; dsimp only; rw [ha, hb]; rfl)
 exact opR_1 rfl e2
theorem O_eqS {x y : Tx} : Ret (opC cl call .eq [.w (.str x), .w (.str y)] h) Q = Q (.w (.bl (decide (x = y)))) h := by
 rw [O_eq (by unfold depthOk; rfl) (by unfold depthOk; rfl)]; rfl
theorem O_neS {x y : Tx} : Ret (opC cl call .ne [.w (.str x), .w (.str y)] h) Q = Q (.w (.bl (!decide (x = y)))) h := by
 rw [O_ne (by unfold depthOk; rfl) (by unfold depthOk; rfl)]; rfl
theorem O_eqI {x y : Int} : Ret (opC cl call .eq [.w (.int x), .w (.int y)] h) Q = Q (.w (.bl (decide (x = y)))) h := by
 rw [O_eq (by unfold depthOk; rfl) (by unfold depthOk; rfl)]; rfl
theorem O_neI {x y : Int} : Ret (opC cl call .ne [.w (.int x), .w (.int y)] h) Q = Q (.w (.bl (!decide (x = y)))) h := by
 rw [O_ne (by unfold depthOk; rfl) (by unfold depthOk; rfl)]; rfl
theorem O_eqB {x y : Bool} : Ret (opC cl call .eq [.w (.bl x), .w (.bl y)] h) Q = Q (.w (.bl (x == y))) h := by
 rw [O_eq (by unfold depthOk; rfl) (by unfold depthOk; rfl)]; rfl
theorem O_neB {x y : Bool} : Ret (opC cl call .ne [.w (.bl x), .w (.bl y)] h) Q = Q (.w (.bl (!(x == y)))) h := by
 rw [O_ne (by unfold depthOk; rfl) (by unfold depthOk; rfl)]; rfl
theorem O_ii {ts : List Ty} {i : Int} : Ret (opC cl call (.isinst ts) [.w (.int i)] h) Q = Q (.w (.bl (ts.any fun t => isInst t (.int i)))) h := opC_1 rfl rfl
theorem O_is {ts : List Ty} {i : Tx} : Ret (opC cl call (.isinst ts) [.w (.str i)] h) Q = Q (.w (.bl (ts.any fun t => isInst t (.str i)))) h := opC_1 rfl rfl
theorem O_it {ts : List Ty} {i : List W} : Ret (opC cl call (.isinst ts) [.w (.tup i)] h) Q = Q (.w (.bl (ts.any fun t => isInst t (.tup i)))) h := opC_1 rfl rfl
theorem O_il {ts : List Ty} {i : List W} : Ret (opC cl call (.isinst ts) [.w (.lst i)] h) Q = Q (.w (.bl (ts.any fun t => isInst t (.lst i)))) h := opC_1 rfl rfl
theorem O_ib {ts : List Ty} {i : Bool} : Ret (opC cl call (.isinst ts) [.w (.bl i)] h) Q = Q (.w (.bl (ts.any fun t => isInst t (.bl i)))) h := opC_1 rfl rfl
theorem O_in {ts : List Ty} : Ret (opC cl call (.isinst ts) [.w .non] h) Q = Q (.w (.bl (ts.any fun t => isInst t .non))) h := opC_1 rfl rfl
theorem O_lenT {ws : List W} : Ret (opC cl call .len [.w (.tup ws)] h) Q = Q (.w (.int ws.length)) h := opC_1 rfl rfl
theorem O_lenL {ws : List W} : Ret (opC cl call .len [.w (.lst ws)] h) Q = Q (.w (.int ws.length)) h := opC_1 rfl rfl
theorem O_lenR {ws : List Int} : Ret (opC cl call .len [.w (.scr ws)] h) Q = Q (.w (.int ws.length)) h := opC_1 rfl rfl
theorem O_lenD {ks vs : List W} : Ret (opC cl call .len [.w (.dct ks vs)] h) Q = Q (.w (.int ks.length)) h := opC_1 rfl rfl
theorem O_idxT {ws : List W} {i : Int} {w : W} (e : atI ws i = some w) : Ret (opC cl call .idx [.w (.tup ws), .w (.int i)] h) Q = Q (.w w) h := opC_1 rfl e
theorem O_idxR {ws : List Int} {i : Int} {w : Int} (e : atI ws i = some w) : Ret (opC cl call .idx [.w (.scr ws), .w (.int i)] h) Q = Q (.w (.int w)) h := opC_1 rfl (show (atI ws i).map W.int = _ by rw [e]; rfl)
theorem O_T0 {a : W} {l : List W} : Ret (opC cl call .idx [.w (.tup (a :: l)), .w (.int 0)] h) Q = Q (.w a) h := O_idxT rfl
theorem O_T1 {a b : W} {l : List W} : Ret (opC cl call .idx [.w (.tup (a :: b :: l)), .w (.int 1)] h) Q = Q (.w b) h := O_idxT rfl
theorem O_T2 {a b c : W} {l : List W} : Ret (opC cl call .idx [.w (.tup (a :: b :: c :: l)), .w (.int 2)] h) Q = Q (.w c) h := O_idxT rfl
theorem O_lt {i j : Int} : Ret (opC cl call .lt [.w (.int i), .w (.int j)] h) Q = Q (.w (.bl (decide (i < j)))) h := opC_1 rfl rfl
theorem O_le {i j : Int} : Ret (opC cl call .le [.w (.int i), .w (.int j)] h) Q = Q (.w (.bl (decide (i <= j)))) h := opC_1 rfl rfl
theorem O_gt {i j : Int} : Ret (opC cl call .gt [.w (.int i), .w (.int j)] h) Q = Q (.w (.bl (decide (j < i)))) h := opC_1 rfl rfl
theorem O_ge {i j : Int} : Ret (opC cl call .ge [.w (.int i), .w (.int j)] h) Q = Q (.w (.bl (decide (j <= i)))) h := opC_1 rfl rfl
theorem O_leR {i j : Int} : Ret (opR .le [.w (.int i), .w (.int j)] h) Q = Q (.w (.bl (decide (i <= j)))) h := opR_1 rfl rfl
theorem O_isN {w : W} : Ret (opC cl call .isN [.w w] h) Q = Q (.w (.bl (match w with | .non => true | _ => false))) h := opC_1 rfl rfl
theorem O_notN {w : W} : Ret (opC cl call .notN [.w w] h) Q = Q (.w (.bl (match w with | .non => false | _ => true))) h := opC_1 rfl rfl
theorem O_int {i : Int} : Ret (opC cl call .int [.w (.int i)] h) Q = Q (.w (.int i)) h := opC_1 rfl rfl
theorem O_intB {b : Bool} : Ret (opC cl call .int [.w (.bl b)] h) Q = Q (.w (.int (b2i b))) h := opC_1 rfl rfl
theorem O_str {x : Tx} : Ret (opC cl call .str [.w (.str x)] h) Q = Q (.w (.str x)) h := opC_1 rfl rfl
theorem O_abs {i : Int} : Ret (opC cl call .abs [.w (.int i)] h) Q = Q (.w (.int (if i < 0 then -i else i))) h := opC_1 rfl rfl
theorem O_neg {i : Int} : Ret (opC cl call .neg [.w (.int i)] h) Q = Q (.w (.int (-i))) h := opC_1 rfl rfl
theorem O_addI {i j : Int} : Ret (opC cl call .add [.w (.int i), .w (.int j)] h) Q = Q (.w (.int (i + j))) h := opC_1 rfl rfl
theorem O_sub {i j : Int} : Ret (opC cl call .sub [.w (.int i), .w (.int j)] h) Q = Q (.w (.int (i - j))) h := opC_1 rfl rfl
theorem O_max2 {i j : Int} : Ret (opC cl call .max2 [.w (.int i), .w (.int j)] h) Q = Q (.w (.int (if j > i then j else i))) h := opC_1 rfl rfl
theorem O_mod {i j : Int} (hj : 0 < j) : Ret (opC cl call .mod [.w (.int i), .w (.int j)] h) Q = Q (.w (.int (i % j))) h := opC_1 rfl (show op_mod [.int i, .int j] = _ by unfold op_mod; dsimp only; rw [if_pos hj])
theorem O_fdiv {i j : Int} (hj : 0 < j) (hz : j.natAbs.log2 < 9000) : Ret (opC cl call .fdiv [.w (.int i), .w (.int j)] h) Q = Q (.w (.int (i / j))) h := opC_1 rfl (show op_fdiv [.int i, .int j] = _ by
 unfold op_fdiv
 dsimp only
 rw [if_pos (by rw [decide_eq_true hj]; exact Nat.ble_eq.mpr hz)])
theorem O_mul {i j : Int} (hz : i.natAbs.log2 + j.natAbs.log2 < 1000000) : Ret (opC cl call .mul [.w (.int i), .w (.int j)] h) Q = Q (.w (.int (i * j))) h := opC_1 rfl (show op_mul [.int i, .int j] = _ by
 unfold op_mul
 dsimp only
 rw [if_pos (show bitsOk i j = true from Nat.ble_eq.mpr hz)])
theorem O_addL {x y : List W} (hz : x.length + y.length <= sizeMax) : Ret (opC cl call .add [.w (.lst x), .w (.lst y)] h) Q = Q (.w (.lst (x ++ y))) h := opC_1 rfl (show addW (.lst x) (.lst y) = some (.lst (x ++ y)) by unfold addW; dsimp only; rw [if_pos hz])
theorem O_tup {rs : List R} {ws : List W} (e : allW rs = some ws) (hz : ws.length <= sizeMax) : Ret (opC cl call .tup rs h) Q = Q (.w (.tup ws)) h := opC_1 e (show op_tup ws = _ by unfold op_tup; dsimp only; rw [if_pos hz])
theorem O_lst {rs : List R} {ws : List W} (e : allW rs = some ws) (hz : ws.length <= sizeMax) : Ret (opC cl call .lst rs h) Q = Q (.w (.lst ws)) h := opC_1 e (show op_lst ws = _ by unfold op_lst; dsimp only; rw [if_pos hz])
theorem O_lst0 : Ret (opC cl call .lst [] h) Q = Q (.w (.lst [])) h := O_lst rfl (by show _ <= 1000000; simp)
theorem O_lst1 {a0 : W} : Ret (opC cl call .lst [.w a0] h) Q = Q (.w (.lst [a0])) h := O_lst rfl (by show _ <= 1000000; simp)
theorem O_lst2 {a0 a1 : W} : Ret (opC cl call .lst [.w a0, .w a1] h) Q = Q (.w (.lst [a0, a1])) h := O_lst rfl (by show _ <= 1000000; simp)
theorem O_lst3 {a0 a1 a2 : W} : Ret (opC cl call .lst [.w a0, .w a1, .w a2] h) Q = Q (.w (.lst [a0, a1, a2])) h := O_lst rfl (by show _ <= 1000000; simp)
theorem O_lst4 {a0 a1 a2 a3 : W} : Ret (opC cl call .lst [.w a0, .w a1, .w a2, .w a3] h) Q = Q (.w (.lst [a0, a1, a2, a3])) h := O_lst rfl (by show _ <= 1000000; simp)
theorem O_lst5 {a0 a1 a2 a3 a4 : W} : Ret (opC cl call .lst [.w a0, .w a1, .w a2, .w a3, .w a4] h) Q = Q (.w (.lst [a0, a1, a2, a3, a4])) h := O_lst rfl (by show _ <= 1000000; simp)
theorem O_lst6 {a0 a1 a2 a3 a4 a5 : W} : Ret (opC cl call .lst [.w a0, .w a1, .w a2, .w a3, .w a4, .w a5] h) Q = Q (.w (.lst [a0, a1, a2, a3, a4, a5])) h := O_lst rfl (by show _ <= 1000000; simp)
theorem O_lst7 {a0 a1 a2 a3 a4 a5 a6 : W} : Ret (opC cl call .lst [.w a0, .w a1, .w a2, .w a3, .w a4, .w a5, .w a6] h) Q = Q (.w (.lst [a0, a1, a2, a3, a4, a5, a6])) h := O_lst rfl (by show _ <= 1000000; simp)
theorem O_lst8 {a0 a1 a2 a3 a4 a5 a6 a7 : W} : Ret (opC cl call .lst [.w a0, .w a1, .w a2, .w a3, .w a4, .w a5, .w a6, .w a7] h) Q = Q (.w (.lst [a0, a1, a2, a3, a4, a5, a6, a7])) h := O_lst rfl (by show _ <= 1000000; simp)
theorem O_tup1 {a : W} : Ret (opC cl call .tup [.w a] h) Q = Q (.w (.tup [a])) h := O_tup rfl (by show _ <= 1000000; simp)
theorem O_tup2 {a b : W} : Ret (opC cl call .tup [.w a, .w b] h) Q = Q (.w (.tup [a, b])) h := O_tup rfl (by show _ <= 1000000; simp)
theorem O_tup3 {a b c : W} : Ret (opC cl call .tup [.w a, .w b, .w c] h) Q = Q (.w (.tup [a, b, c])) h := O_tup rfl (by show _ <= 1000000; simp)
theorem O_tupleL {ws : List W} : Ret (opC cl call .tuple [.w (.lst ws)] h) Q = Q (.w (.tup ws)) h := opC_1 rfl rfl
theorem O_tupleT {ws : List W} : Ret (opC cl call .tuple [.w (.tup ws)] h) Q = Q (.w (.tup ws)) h := opC_1 rfl rfl
theorem O_listL {ws : List W} : Ret (opC cl call .list [.w (.lst ws)] h) Q = Q (.w (.lst ws)) h := opC_1 rfl rfl
theorem O_listT {ws : List W} : Ret (opC cl call .list [.w (.tup ws)] h) Q = Q (.w (.lst ws)) h := opC_1 rfl rfl
theorem O_slT1 {a : W} {ws : List W} : Ret (opC cl call (.slice true false) [.w (.tup (a :: ws)), .w (.int 1)] h) Q = Q (.w (.tup ws)) h := opC_1 rfl (show op_sliceTF [.tup (a :: ws), .int 1] = some (.tup ws) by
 unfold op_sliceTF cut cutAt
 simp)
theorem O_ninS {c : Nat} {x : Tx} : Ret (opC cl call .nin [.w (.str [c]), .w (.str x)] h) Q = Q (.w (.bl (!x.contains c))) h := opC_1 rfl rfl
theorem wk_l {ws : List W} {f : List W -> List (Nat × O) -> Prop} : wkP .seq [.w (.lst ws)] h f = f ws [] := id rfl
theorem wk_t {ws : List W} {f : List W -> List (Nat × O) -> Prop} : wkP .seq [.w (.tup ws)] h f = f ws [] := id rfl
theorem wk_s {x : Tx} {f : List W -> List (Nat × O) -> Prop} : wkP .seq [.w (.str x)] h f = f (x.map fun c => .str [c]) [] := id rfl
theorem wk_r {n : Int} {f : List W -> List (Nat × O) -> Prop} (h1 : -1000000000 < n) (h2 : n < 1000000) : wkP .range [.w (.int n)] h f = f (rangeW 0 n.toNat) [] := by
 show (match walk .range [.w (.int n)] h with | some (ws, st) => f ws st | none => False) = _
 unfold walk
 dsimp only [allW]
 unfold walkW
 simp_all
def dcBody (cl : Cls) (call : Call) (cs : List E) (ke ve : E) : Env -> Hh -> Res (List W) := fun env' h2 => match tests cl call cs env' h2 with
 | .ok true h3 => match asW (ev cl call ke env' h3) with
  | .ok kw h4 => match asW (ev cl call ve env' h4) with
   | .ok vw h5 => .ok (kw ++ vw) h5
   | _ => .no
  | _ => .no
 | .ok false h3 => .ok [] h3
 | _ => .no
def dctP (xs : List W) (f : W -> Prop) : Prop := match pairsPut xs [] [] with
 | some (ks, vs) => f (.dct ks vs)
 | none => False
theorem R_dbody {cs : List E} {ke ve : E} : Ret (dcBody cl call cs ke ve env h) Ql = Ret (tests cl call cs env h) fun b h3 => if b = true then Ret (ev cl call ke env h3) (fun r h4 => match r with | .w k => Ret (ev cl call ve env h4) (fun r h5 => match r with | .w v => Ql [k, v] h5 | _ => False) | _ => False) else Ql [] h3 := by
 unfold dcBody
 cases tests cl call cs env h with
 | ok b h3 => cases b with
  | false => rfl
  | true =>
   dsimp only [Ret]
   cases ev cl call ke env h3 with
   | ok r h4 => cases r with
    | loc n => rfl
    | w k =>
     dsimp only [asW]
     cases ev cl call ve env h4 with
     | ok r h5 => cases r <;> rfl
     | _ => rfl
   | _ => rfl
 | _ => rfl
theorem R_dc {t : T} {k : IK} {its cs : List E} {ke ve : E} : Ret (ev cl call (.dc t k its cs ke ve) env h) Q = Ret (evs cl call its env h) fun rs h1 => wkP k rs h1 fun ws st =>
  Ret (lcLoop t (wipe (slotsT t) env) st (dcBody cl call cs ke ve) ws h1) fun xs h4 => dctP xs fun w => Q (.w w) h4 := by
 rw [ev]
 cases evs cl call its env h with
 | ok rs h1 =>
  dsimp only [Ret]
  unfold wkP
  cases walk k rs h1 with
  | none => rfl
  | some p =>
   obtain ⟨ws, st⟩ := p
   show Ret (match lcLoop t (wipe (slotsT t) env) st (dcBody cl call cs ke ve) ws h1 with
    | .ok xs h4 => match pairsPut xs [] [] with
     | some (ks, vs) => .ok (.w (.dct ks vs)) h4
     | none => .no
    | _ => .no) Q = _
   dsimp only [Ret]
   cases lcLoop t (wipe (slotsT t) env) st (dcBody cl call cs ke ve) ws h1 with
   | ok xs h4 =>
    dsimp only [dctP]
    cases pairsPut xs [] [] <;> rfl
   | _ => rfl
 | _ => rfl
def inBody (cl : Cls) (call : Call) (t1 : T) (k1 : IK) (its1 cs : List E) (st : List (Nat × O)) (B : Env -> Hh -> Res (List W)) : Env -> Hh -> Res (List W) := fun env' h2 => match tests cl call cs env' h2 with
 | .ok true h3 => match evs cl call its1 env' h3 with
  | .ok rs1 h4 => match walk k1 rs1 h4 with
   | some (ws1, st1) => lcLoop t1 (wipe (slotsT t1) env') (st ++ st1) B ws1 h4
   | none => .no
  | _ => .no
 | .ok false h3 => .ok [] h3
 | _ => .no
theorem R_ibody {t1 : T} {k1 : IK} {its1 cs : List E} {st : List (Nat × O)} {B : Env -> Hh -> Res (List W)} : Ret (inBody cl call t1 k1 its1 cs st B env h) Ql = Ret (tests cl call cs env h) fun b h3 => if b = true then Ret (evs cl call its1 env h3) (fun rs1 h4 => wkP k1 rs1 h4 fun ws1 st1 => Ret (lcLoop t1 (wipe (slotsT t1) env) (st ++ st1) B ws1 h4) Ql) else Ql [] h3 := by
 unfold inBody
 cases tests cl call cs env h with
 | ok b h3 => cases b with
  | false => rfl
  | true =>
   dsimp only [Ret]
   cases evs cl call its1 env h3 with
   | ok rs1 h4 =>
    dsimp only
    unfold wkP
    cases walk k1 rs1 h4 <;> rfl
   | _ => rfl
 | _ => rfl
theorem R_dc2 {t t1 : T} {k k1 : IK} {its cs its1 cs1 : List E} {ke ve : E} : Ret (ev cl call (.dc2 t k its cs t1 k1 its1 cs1 ke ve) env h) Q = Ret (evs cl call its env h) fun rs h1 => wkP k rs h1 fun ws st =>
  Ret (lcLoop t (wipe (slotsT t ++ slotsT t1) env) st (inBody cl call t1 k1 its1 cs st (dcBody cl call cs1 ke ve)) ws h1) fun xs h4 => dctP xs fun w => Q (.w w) h4 := by
 rw [ev]
 cases evs cl call its env h with
 | ok rs h1 =>
  dsimp only [Ret]
  unfold wkP
  cases walk k rs h1 with
  | none => rfl
  | some p =>
   obtain ⟨ws, st⟩ := p
   show Ret (match lcLoop t (wipe (slotsT t ++ slotsT t1) env) st (inBody cl call t1 k1 its1 cs st (dcBody cl call cs1 ke ve)) ws h1 with
    | .ok xs h4 => match pairsPut xs [] [] with
     | some (ks, vs) => .ok (.w (.dct ks vs)) h4
     | none => .no
    | _ => .no) Q = _
   dsimp only [Ret]
   cases lcLoop t (wipe (slotsT t ++ slotsT t1) env) st (inBody cl call t1 k1 its1 cs st (dcBody cl call cs1 ke ve)) ws h1 with
   | ok xs h4 =>
    dsimp only [dctP]
    cases pairsPut xs [] [] <;> rfl
   | _ => rfl
 | _ => rfl
theorem O_app {l : Nat} {rs : List R} {r : R} (e : h[l]? = some (.lst rs)) (hz : rs.length <= 1000) : Ret (opR .append [.loc l, r] h) Q = Q (.w .non) (h.set l (.lst (rs ++ [r]))) := by
 have e1 : opR .append [.loc l, r] h = match oh_append [.loc l, r] h with | some (r, h') => .ok r h' | none => .no := rfl
 rw [e1]
 unfold oh_append
 dsimp only
 rw [e]
 dsimp only
 rw [if_pos (show rs.length < sizeMax from Nat.lt_of_le_of_lt hz (by decide))]
 rfl
end
end Tf
set_option hygiene false in
local macro_rules
 | `(tactic| simp? [$ts,*]) => `(tactic| try simp only [R_c, R_var, slot0, slotS, R_op, R_call, R_nil, R_cons, R_and, R_or, R_ite, R_chain, R_meth, R_methK, R_al, R_mut, R_mutE, R_lc, R_body, R_tnil, R_tcons, X_nil, X_cons, X_asg, X_par, X_exp, X_ret, X_pass, X_brk, X_ifs, X_sub, X_fld, X_for, X_whl, thenX_nx, thenX_rt, thenX_bk, setP_n, bB_t, bB_f, bB_b, ret_ok, List.set_cons_zero, List.set_cons_succ, wk_l, wk_t, wk_s, O_not, O_eqS, O_neS, O_eqI, O_neI, O_eqB, O_neB, O_ii, O_is, O_it, O_il, O_ib, O_in, O_lenT, O_lenL, O_lenR, O_lenD, O_T0, O_T1, O_T2, O_lt, O_le, O_gt, O_ge, O_leR, O_isN, O_notN, O_int, O_intB, O_str, O_abs, O_neg, O_addI, O_sub, O_max2, O_lst0, O_lst1, O_lst2, O_lst3, O_lst4, O_lst5, O_lst6, O_lst7, O_lst8, O_tup1, O_tup2, O_tup3, O_tupleL, O_tupleT, O_listL, O_listT, O_slT1, O_ninS, wipe, slotsT, List.cons_append, List.nil_append, R_dc, R_dbody, R_dc2, R_ibody, List.any_cons, List.any_nil, isInst, Bool.or_false, Bool.or_true, Bool.false_or, Bool.true_or, Bool.not_true, Bool.not_false, Bool.false_eq_true, if_true, if_false, and_true, true_and, decide_true, decide_false, Bool.and_true, Bool.and_false, Bool.true_and, Bool.false_and, Bool.not_not, $ts,*])
 | `(tactic| simp? only) => `(tactic| try simp only [R_c, R_var, slot0, slotS, R_op, R_call, R_nil, R_cons, R_and, R_or, R_ite, R_chain, R_meth, R_methK, R_al, R_mut, R_mutE, R_lc, R_body, R_tnil, R_tcons, X_nil, X_cons, X_asg, X_par, X_exp, X_ret, X_pass, X_brk, X_ifs, X_sub, X_fld, X_for, X_whl, thenX_nx, thenX_rt, thenX_bk, setP_n, bB_t, bB_f, bB_b, ret_ok, List.set_cons_zero, List.set_cons_succ, wk_l, wk_t, wk_s, O_not, O_eqS, O_neS, O_eqI, O_neI, O_eqB, O_neB, O_ii, O_is, O_it, O_il, O_ib, O_in, O_lenT, O_lenL, O_lenR, O_lenD, O_T0, O_T1, O_T2, O_lt, O_le, O_gt, O_ge, O_leR, O_isN, O_notN, O_int, O_intB, O_str, O_abs, O_neg, O_addI, O_sub, O_max2, O_lst0, O_lst1, O_lst2, O_lst3, O_lst4, O_lst5, O_lst6, O_lst7, O_lst8, O_tup1, O_tup2, O_tup3, O_tupleL, O_tupleT, O_listL, O_listT, O_slT1, O_ninS, wipe, slotsT, List.cons_append, List.nil_append, R_dc, R_dbody, R_dc2, R_ibody, List.any_cons, List.any_nil, isInst, Bool.or_false, Bool.or_true, Bool.false_or, Bool.true_or, Bool.not_true, Bool.not_false, Bool.false_eq_true, if_true, if_false, and_true, true_and, decide_true, decide_false, Bool.and_true, Bool.and_false, Bool.true_and, Bool.false_and, Bool.not_not])
namespace Tf
structure PkS (fds : List Fd) : Prop where
 e0 : fds[0]? = some f0
 e1 : fds[1]? = some f1
 e2 : fds[2]? = some f2
 e3 : fds[3]? = some f3
 e4 : fds[4]? = some f4
 e5 : fds[5]? = some f5
 e6 : fds[6]? = some f6
 e7 : fds[7]? = some f7
 e8 : fds[8]? = some f8
 e9 : fds[9]? = some f9
 e10 : fds[10]? = some f10
 e13 : fds[13]? = some f13
 e20 : fds[20]? = some f20
 e21 : fds[21]? = some f21
 e22 : fds[22]? = some f22
 e23 : fds[23]? = some f23
 e24 : fds[24]? = some f24
def WorthOk (w : W) : Prop := w = .non ∨ ∃ n d : Int, w = .tup [.int n, .int d] ∧ 1 <= d ∧ n.natAbs.log2 < 4000 ∧ d.natAbs.log2 < 4000
def letters : Tx := [97, 98, 99, 100, 101, 102, 103, 104, 105, 106, 107, 108, 109, 110, 111, 112, 113, 114, 115, 116, 117, 118, 119, 120, 121, 122]
def NameOk (x : Tx) : Prop := 1 <= x.length ∧ x.length <= 8 ∧ ∀ c ∈ x, c ∈ letters
structure NamesOk (l : List Tx) : Prop where
 ok : ∀ x ∈ l, NameOk x
 nd : l.Nodup
 few : l.length <= 8
section
variable {cl : Cls} {fds : List Fd} {fuel d : Nat} {h : Hh}
theorem log2_lt {a b : Nat} (hb : b ≠ 0) (h : 2 * a <= b) (ha : a ≠ 0) : a.log2 < b.log2 := by
 have h1 : 2 ^ a.log2 <= a := Nat.log2_self_le ha
 have h2 : a.log2 + 1 <= b.log2 := (Nat.le_log2 hb).mpr (by rw [Nat.pow_succ]; omega)
 omega
structure ColsOk (heads c : List Tx) : Prop where
 ok : NamesOk c
 sub : ∀ x ∈ c, x ∈ heads
inductive Fact where
 | dec (a b : List Tx)
 | key (a : List Tx)
 | fil (a : List Tx)
abbrev sDec : Tx := [100, 101, 99, 105, 100, 101, 115]
abbrev sKey : Tx := [107, 101, 121]
abbrev sFil : Tx := [102, 105, 108, 108, 101, 100]
def Fact.name : Fact -> Tx
 | .dec _ _ => sDec
 | .key _ => sKey
 | .fil _ => sFil
def Fact.parts : Fact -> List (List Tx)
 | .dec a b => [a, b]
 | .key a => [a]
 | .fil a => [a]
def FactOk (heads : List Tx) (f : Fact) : Prop := ∀ c ∈ f.parts, ColsOk heads c
end
end Tf
namespace Tf
structure SchOk (heads : List Tx) (F : List Fact) : Prop where
 hd : NamesOk heads
 ne : heads ≠ []
 fs : ∀ f ∈ F, FactOk heads f
 few : F.length <= 1000
section
variable {cl : Cls} {fds : List Fd} {fuel d : Nat} {h : Hh}
def ixOf (heads : List Tx) (x : Tx) : Nat := (txAt heads x).getD 0
def partW (heads : List Tx) (row : List W) (c : List Tx) : List W := c.map fun x => row.getD (ixOf heads x) .non
end
end Tf
namespace Tf
open Classical
structure TabOk (heads : List Tx) (rows : List (List W)) : Prop where
 len : ∀ r ∈ rows, r.length = heads.length
 ok : ∀ r ∈ rows, ∀ w ∈ r, WorthOk w
 few : rows.length <= 1000
section
variable {cl : Cls} {fds : List Fd} {fuel d : Nat} {h : Hh} {call : Call}
end
def KW (w : W) : Prop := w = .non ∨ ∃ n m : Int, w = .tup [.int n, .int m]
theorem weq_kw {a b : W} (ha : KW a) (hb : KW b) : weq a b = true ↔ a = b := by
 rcases ha with rfl | ⟨n, m, rfl⟩ <;> rcases hb with rfl | ⟨p, q, rfl⟩
 ·simp [weq]
 ·simp [weq]
 ·simp [weq]
 ·simp [weq, weqs]
theorem weqs_kw : ∀ {a b : List W}, (∀ w ∈ a, KW w) -> (∀ w ∈ b, KW w) -> (weqs a b = true ↔ a = b)
 | [], [], _, _ => by simp [weqs]
 | [], _ :: _, _, _ => by simp [weqs]
 | _ :: _, [], _, _ => by simp [weqs]
 | x :: a, y :: b, ha, hb => by
  rw [weqs, Bool.and_eq_true, weq_kw (ha x (by simp)) (hb y (by simp)), weqs_kw (fun w hw => ha w (by simp [hw])) (fun w hw => hb w (by simp [hw])), List.cons.injEq]
def KR (w : W) : Prop := ∃ l : List W, w = .tup l ∧ ∀ x ∈ l, KW x
theorem weq_kr {a b : W} (ha : KR a) (hb : KR b) : weq a b = true ↔ a = b := by
 obtain ⟨l, rfl, h1⟩ := ha
 obtain ⟨m, rfl, h2⟩ := hb
 rw [show weq (.tup l) (.tup m) = weqs l m from rfl, weqs_kw h1 h2]
 simp_all
theorem weq_dec {a b : W} (ha : KR a) (hb : KR b) : weq a b = decide (a = b) := by
 rw [Bool.eq_iff_iff, weq_kr ha hb, decide_eq_true_eq]
theorem dput_kr {α : Type} {y : α} {x : W} (hx : KR x) : ∀ {ks : List W} {vs : List α}, (∀ k ∈ ks, KR k) -> vs.length = ks.length ->
  (∀ k, k ∈ (dput ks vs x y).1 ↔ k ∈ ks ∨ k = x) ∧ (dput ks vs x y).2.length = (dput ks vs x y).1.length ∧ (dput ks vs x y).1.length <= ks.length + 1 ∧ ∀ z, KR z -> dfind (dput ks vs x y).1 (dput ks vs x y).2 z = if x = z then some y else dfind ks vs z
 | [], [], _, _ => by
  refine ⟨fun k => by simp [dput], rfl, Nat.le_refl _, fun z hz => ?_⟩
  show dfind [x] [y] z = _
  rw [dfind, weq_dec hx hz]
  simp_all
 | [], _ :: _, _, h => by simp_all
 | _ :: _, [], _, h => by simp_all
 | k :: ks, v :: vs, hk, hl => by
  have hk0 := hk k (by simp)
  rw [dput, weq_dec hk0 hx]
  by_cases e : k = x
  ·subst e
   rw [if_pos (decide_eq_true rfl)]
   refine ⟨fun z => ?_, by simpa using hl, by simp, fun z hz => ?_⟩
   ·simp_all
   ·rw [dfind, dfind, weq_dec hk0 hz]
    simp_all
  ·rw [if_neg (by simpa using e)]
   obtain ⟨i1, i2, i3, i4⟩ := dput_kr hx (y := y) (ks := ks) (vs := vs) (fun z hz => hk z (by simp [hz])) (by simpa using hl)
   refine ⟨fun z => ?_, by simpa using i2, by simpa using i3, fun z hz => ?_⟩
   ·simp only [List.mem_cons, i1 z]
    exact ⟨fun q => q.elim (fun q => .inl (.inl q)) fun q => q.elim (fun q => .inl (.inr q)) .inr, fun q => q.elim (fun q => q.elim .inl fun q => .inr (.inl q)) fun q => .inr (.inr q)⟩
   ·rw [dfind, dfind, weq_dec hk0 hz]
    by_cases e1 : k = z
    ·subst e1
     simp
     intro z
     simp_all
    ·grind
def mineW (heads : List Tx) (f : Fact) (r : List W) : W := .tup (partW heads r (match f with | .dec a _ => a | .key a => a | .fil a => a))
def itsW (heads : List Tx) (f : Fact) (r : List W) : W := match f with
 | .dec _ b => .tup (partW heads r b)
 | _ => .tup r
structure RowsOk (heads : List Tx) (R : List (List W)) : Prop where
 len : ∀ r ∈ R, r.length = heads.length
 ok : ∀ r ∈ R, ∀ w ∈ r, KW w
 few : R.length <= 1000
theorem part_kw {heads c : List Tx} {r : List W} (hr : ∀ w ∈ r, KW w) : ∀ w ∈ partW heads r c, KW w := fun w hw => by
 obtain ⟨x, _, rfl⟩ := List.mem_map.mp hw
 rw [List.getD_eq_getElem?_getD]
 cases e : r[ixOf heads x]? with
 | none => exact .inl rfl
 | some v => exact hr v (List.mem_of_getElem? e)
theorem mine_kr {heads : List Tx} {f : Fact} {r : List W} (hr : ∀ w ∈ r, KW w) : KR (mineW heads f r) := ⟨_, rfl, part_kw hr⟩
structure Seen (heads : List Tx) (f : Fact) (dn : List (List W)) (ks : List W) (vs : List R) : Prop where
 kr : ∀ k ∈ ks, KR k
 len : vs.length = ks.length
 few : ks.length <= dn.length
 mem : ∀ k, k ∈ ks ↔ ∃ r ∈ dn, k = mineW heads f r
 at_ : ∀ r ∈ dn, dfind ks vs (mineW heads f r) = some (.w (itsW heads f r))
section
variable {cl : Cls} {fds : List Fd} {fuel d : Nat} {h : Hh} {call : Call} {Q : R -> Hh -> Prop}
theorem Seen.step {heads : List Tx} {f : Fact} {dn : List (List W)} {ks : List W} {vs : List R} (s : Seen heads f dn ks vs) {r : List W} (hr : ∀ w ∈ r, KW w) (hd : ∀ q ∈ dn, ∀ w ∈ q, KW w) (same : ∀ q ∈ dn, mineW heads f q = mineW heads f r -> itsW heads f q = itsW heads f r) :
  Seen heads f (dn ++ [r]) (dput ks vs (mineW heads f r) (.w (itsW heads f r))).1 (dput ks vs (mineW heads f r) (.w (itsW heads f r))).2 := by
 obtain ⟨i1, i2, i3, i4⟩ := dput_kr (mine_kr (heads := heads) (f := f) hr) (y := (R.w (itsW heads f r))) s.kr s.len
 refine ⟨fun k hk => ?_, i2, by rw [List.length_append, List.length_singleton]; have := s.few; omega, fun k => ?_, fun q hq => ?_⟩
 ·rcases (i1 k).mp hk with z | z
  ·exact s.kr k z
  ·rw [z]; exact mine_kr hr
 ·rw [i1 k, s.mem k]
  simp_all
 ·rcases List.mem_append.mp hq with z | z
  ·rw [i4 _ (mine_kr (hd q z))]
   by_cases e : mineW heads f r = mineW heads f q
   ·simp_all
   ·rw [if_neg e]; exact s.at_ q z
  ·have : q = r := by simpa using z
   subst this
   rw [i4 _ (mine_kr hr), if_pos rfl]
end
end Tf
namespace Tf
open Classical
def purO (a b c : Int) : O := .lst [.w (.int a), .w (.int b), .w (.int c)]
def PurOk (n : Nat) (o : O) : Prop := ∃ a b c : Int, o = purO a b c ∧ 0 <= a ∧ 0 <= b ∧ b < 2147483629 ∧ 0 <= c ∧ c <= n
theorem PurOk.mono {n m : Nat} {o : O} (p : PurOk n o) (h : n <= m) : PurOk m o := by
 obtain ⟨a, b, c, e, h1, h2, h3, h4, h5⟩ := p
 exact ⟨a, b, c, e, h1, h2, h3, h4, by omega⟩
theorem PurOk.flat {n : Nat} {o : O} (p : PurOk n o) : flatO o = true := by
 obtain ⟨a, b, c, rfl, _⟩ := p
 rfl
theorem lg {i : Int} (h : i.natAbs < 1000000000000000000) : i.natAbs.log2 < 200 := by
 by_cases h0 : i.natAbs = 0
 ·rw [h0]; decide
 ·exact (Nat.log2_lt h0).mpr (Nat.lt_of_lt_of_le h (by decide))
section
variable {cl : Cls} {fds : List Fd} {fuel d : Nat} {h : Hh} {call : Call} {Q : R -> Hh -> Prop}
theorem O_mulS {i j : Int} (hi : i.natAbs < 1000000000000000000) (hj : j.natAbs < 1000000000000000000) : Ret (opC cl call .mul [.w (.int i), .w (.int j)] h) Q = Q (.w (.int (i * j))) h := O_mul (by have := lg hi; have := lg hj; omega)
theorem O_p0 {a b c : Int} {t : Hh} : Ret (opC cl call .idx [.loc 0, .w (.int 0)] (purO a b c :: t)) Q = Q (.w (.int a)) (purO a b c :: t) := id rfl
theorem O_p1 {a b c : Int} {t : Hh} : Ret (opC cl call .idx [.loc 0, .w (.int 1)] (purO a b c :: t)) Q = Q (.w (.int b)) (purO a b c :: t) := id rfl
theorem O_p2 {a b c : Int} {t : Hh} : Ret (opC cl call .idx [.loc 0, .w (.int 2)] (purO a b c :: t)) Q = Q (.w (.int c)) (purO a b c :: t) := id rfl
theorem set_p0 {a b c x : Int} : setSub (.loc 0) (.w (.int 0)) (.w (.int x)) [purO a b c] = some [purO x b c] := id rfl
theorem set_p2 {a b c x : Int} : setSub (.loc 0) (.w (.int 2)) (.w (.int x)) [purO a b c] = some [purO a b x] := id rfl
structure PkM (fds : List Fd) : Prop where
 m150 : fds[150]? = some f150
 m151 : fds[151]? = some f151
 m152 : fds[152]? = some f152
theorem call_p {f l n m : Nat} {fd : Fd} {rs : List R} {ws : List W} {o : O} (e : fds[f]? = some fd) (hw : allW rs = some ws) (hl : h[l]? = some o) (p : PurOk n o) (hn : rs.length + 1 = fd.np) {env : Env} (he : some (R.loc 0) :: (rs.map some ++ List.replicate (fd.ns - fd.np) none) = env)
  (r : Ret (execs cl (callN cl fds fuel d) fuel fd.body env [o]) fun x h' => ∃ o' t w, h' = o' :: t ∧ PurOk m o' ∧ (∃ r, x.fl = .rt r ∧ fz h' 1 20 r = some w) ∧ Q (.w w) (h.set l o')) : Ret (callN cl fds fuel (d + 1) .pu f (.loc l :: rs) h) Q := by
 refine call_l e hw hl p.flat (run_of (by simpa using hn) ?_)
 rw [show (R.loc 0 :: rs).map some ++ List.replicate (fd.ns - fd.np) none = env from he]
 refine r.imp fun x h' ⟨o', t, w, e1, p1, ⟨r, e2, e3⟩, q⟩ => ?_
 obtain ⟨fl, en⟩ := x
 have e2 : fl = .rt r := e2
 subst e2 e1
 exact ⟨o', w, rfl, p1.flat, e3, q⟩
theorem s_draw (M : PkM fds) {l n many : Nat} {o : O} (hl : h[l]? = some o) (p : PurOk n o) (hn : n <= 1000000) (h1 : 1 <= many) (h2 : many <= 1000000) (q : ∀ (r : Nat) (o' : O), r < many -> PurOk (n + 1) o' -> Q (.w (.int r)) (h.set l o')) :
  Ret (callN cl fds fuel (d + 1) .pu 151 [.loc l, .w (.int many)] h) Q := by
 refine call_p (m := n + 1) M.m151 rfl hl p rfl (env := [some (.loc 0), some (.w (.int many)), none, none, none]) rfl ?_
 obtain ⟨a, b, c, rfl, p1, p2, p3, p4, p5⟩ := p
 have hm : (0 : Int) < many := by omega
 have hz : (many : Int).natAbs.log2 < 9000 := by have := lg (i := many) (by omega); omega
 have fin : ∀ {x : Int} {o' : O}, PurOk (n + 1) o' -> Q (.w (.int (x % many))) (h.set l o') := fun {x o'} po => by
  have e : x % (many : Int) = (((x % many).toNat : Nat) : Int) := by
   rw [Int.toNat_of_nonneg (Int.emod_nonneg _ (by omega))]
  rw [e]
  refine q _ _ ?_ po
  have := Int.emod_lt_of_pos x hm
  omega
 simp? [f151, O_p0]
 by_cases ha : (0 : Int) < a
 ·rw [decide_eq_true ha]
  simp? [O_p0, O_mod hm, O_fdiv hm hz, set_p0]
  have : PurOk (n + 1) (purO (a / many) b c) := ⟨_, _, _, rfl, Int.ediv_nonneg p1 (by omega), p2, p3, p4, by omega⟩
  exact ⟨_, [], _, rfl, this, ⟨_, rfl, rfl⟩, fin this⟩
 ·rw [decide_eq_false ha]
  have po : PurOk (n + 1) (purO a b (c + 1)) := ⟨_, _, _, rfl, p1, p2, p3, by omega, by omega⟩
  have t2 : (c + 1) * (c + 1) <= 1000001 * 1000001 := Int.mul_le_mul (by omega) (by omega) (by omega) (by decide)
  have t3 : 0 <= (c + 1) * (c + 1) := Int.mul_nonneg (by omega) (by omega)
  have m1 : ∀ x : Int, 0 <= x % 2147483629 ∧ x % 2147483629 < 2147483629 := fun x => ⟨Int.emod_nonneg _ (by decide), Int.emod_lt_of_pos _ (by decide)⟩
  have m2 : ∀ x : Int, 0 <= x % 2147483587 ∧ x % 2147483587 < 2147483587 := fun x => ⟨Int.emod_nonneg _ (by decide), Int.emod_lt_of_pos _ (by decide)⟩
  simp? [O_p2, set_p2, O_p1]
  rw [O_mulS (by decide) (by omega)]
  simp? only
  rw [O_mulS (by omega) (by omega)]
  simp? only
  rw [O_mulS (by omega) (by omega)]
  simp? [O_mod (show (0 : Int) < 2147483629 by decide)]
  generalize ((b + 104729 * (c + 1)) * ((c + 1) * (c + 1) + 7919)) = u
  obtain ⟨u1, u2⟩ := m1 u
  rw [O_mulS (by omega) (by omega)]
  simp? [O_mod (show (0 : Int) < 2147483587 by decide)]
  generalize (u % 2147483629 * (u % 2147483629) + (c + 1)) = v
  obtain ⟨v1, v2⟩ := m2 v
  rw [O_mulS (by omega) (by decide)]
  simp? [O_mod (show (0 : Int) < 2147483647 by decide), O_fdiv (show (0 : Int) < 64 by decide) (by decide), O_mod hm]
  exact ⟨_, [], _, rfl, po, ⟨_, rfl, rfl⟩, fin po⟩
theorem s_purse (M : PkM fds) {ns : List Int} {t : Int} (ht : 0 <= t) (ht2 : t <= 1000) (q : ∀ o, PurOk 0 o -> Q (.loc h.length) (h ++ [o])) : Ret (callN cl fds fuel (d + 1) .kp 150 [.w (.scr ns), .w (.int t)] h) Q := by
 rw [callN, M.m150]
 dsimp only [runBy]
 rw [hand_w (ws := [.scr ns, .int t]) rfl]
 dsimp only
 have r : Ret (runFd cl (callN cl fds fuel d) fuel f150 [.w (.scr ns), .w (.int t)] []) fun r h' => r = .loc 0 ∧ ∃ o, h' = [o] ∧ PurOk 0 o := by
  refine run_of rfl ?_
  show Ret (execs cl (callN cl fds fuel d) fuel f150.body [some (.w (.scr ns)), some (.w (.int t)), none] []) _
  have pw : ∀ {i j : Int}, (decide (0 <= j ∧ j <= 1000) && Nat.blt i.natAbs.log2 10000) = true -> opW .pow [.int i, .int j] = some (.int (i ^ j.toNat)) := fun {i j} hc => by
   show op_pow [.int i, .int j] = _
   unfold op_pow
   dsimp only
   rw [if_pos hc]
  have w1 := pw (i := 10) (j := 18) (by decide +kernel)
  have w2 := pw (i := 10) (j := 40) (by decide +kernel)
  have w3 := pw (i := 10 ^ (40 : Int).toNat) (j := 10) (by decide +kernel)
  have big : (0 : Int) < (10 ^ (40 : Int).toNat) ^ (10 : Int).toNat := Int.pow_pos (Int.pow_pos (by decide))
  generalize hX : ((10 : Int) ^ (40 : Int).toNat) ^ (10 : Int).toNat = X at w3 big
  generalize hY : (10 : Int) ^ (40 : Int).toNat = Y at w2 w3
  generalize (10 : Int) ^ (18 : Int).toNat = Z at w1
  by_cases hlt : t < ns.length
  ·have e : atI ns t = some ns[t.toNat] := by
    unfold atI
    rw [if_pos ht, List.getElem?_eq_getElem (by omega)]
   simp? [f150, decide_eq_true hlt, O_idxR e]
   rw [opC_1 (o := .pow) rfl w1]
   simp? only
   rw [opC_1 (o := .pow) rfl w2]
   try simp? only
   rw [opC_1 (o := .pow) rfl w3]
   simp? [O_mod big]
   rw [O_mulS (by decide) (by omega)]
   simp? [O_mod (show (0 : Int) < 2147483629 by decide)]
   exact ⟨rfl, _, rfl, _, _, _, rfl, Int.emod_nonneg _ (Int.ne_of_gt big), Int.emod_nonneg _ (by decide), Int.emod_lt_of_pos _ (by decide), Int.le_refl _, Int.le_refl _⟩
  ·simp? [f150, decide_eq_false hlt]
   rw [opC_1 (o := .pow) rfl w1]
   simp? only
   rw [opC_1 (o := .pow) rfl w2]
   try simp? only
   rw [opC_1 (o := .pow) rfl w3]
   simp? [O_mod big]
   rw [O_mulS (by decide) (by omega)]
   simp? [O_mod (show (0 : Int) < 2147483629 by decide)]
   exact ⟨rfl, _, rfl, _, _, _, rfl, Int.emod_nonneg _ (Int.ne_of_gt big), Int.emod_nonneg _ (by decide), Int.emod_lt_of_pos _ (by decide), Int.le_refl _, Int.le_refl _⟩
 cases e1 : runFd cl (callN cl fds fuel d) fuel f150 [.w (.scr ns), .w (.int t)] [] with
 | ex c v => rw [e1] at r; exact r.elim
 | no => rw [e1] at r; exact r
 | ok r' h' =>
  rw [e1] at r
  obtain ⟨rfl, o, rfl, po⟩ := r
  unfold afterK
  simp only [List.length_nil, List.take_zero, List.all_nil, Bool.true_and, List.getElem?_cons_zero, putBack]
  rw [show Nat.ble 0 0 = true from rfl, if_pos rfl, if_pos po.flat]
  exact q o po
end
end Tf
namespace Tf
section
variable {cl : Cls} {call : Call} {fds : List Fd} {fuel d : Nat} {env : Env} {h : Hh} {Q : R -> Hh -> Prop}
theorem R_mkX {C : Nat} {e : E} : Ret (ev cl call (.mkX C e) env h) Q = Ret (ev cl call e env h) fun r h1 => Q (.loc h1.length) (h1 ++ [.exc C r]) := by
 rw [ev]
 cases ev cl call e env h <;> rfl
def xcP (h1 : Hh) (r : R) (f : Nat -> R -> Prop) : Prop := match r with
 | .loc l => match h1[l]? with
  | some (.exc C r) => 0 < C ∧ C < 7 ∧ f C r
  | _ => False
 | _ => False
theorem xc_at {l C : Nat} {r : R} {f : Nat -> R -> Prop} (e : h[l]? = some (.exc C r)) (h0 : 0 < C) (h7 : C < 7) : xcP h (.loc l) f = f C r := by
 unfold xcP
 dsimp only
 rw [e]
 exact propext ⟨fun z => z.2.2, fun z => ⟨h0, h7, z⟩⟩
theorem R_excV {e : E} : Ret (ev cl call (.excV e) env h) Q = Ret (ev cl call e env h) fun r h1 => xcP h1 r fun _ y => Q y h1 := by
 rw [ev]
 cases ev cl call e env h with
 | ok r h1 =>
  cases r with
  | w w => rfl
  | loc l =>
   dsimp only [Ret, xcP]
   cases h1[l]? with
   | none => rfl
   | some o =>
    cases o with
    | exc C r =>
     dsimp only
     by_cases k : 0 < C ∧ C < 7
     ·rw [if_pos k]; simp [Ret, k.1, k.2]
     ·rw [if_neg k]
      exact propext ⟨fun z => z.elim, fun z => k ⟨z.1, z.2.1⟩⟩
    | _ => rfl
 | _ => rfl
theorem R_isX {cs : List Nat} {e : E} : Ret (ev cl call (.isX cs e) env h) Q = Ret (ev cl call e env h) fun r h1 => xcP h1 r fun C _ => Q (.w (.bl (cs.contains C))) h1 := by
 rw [ev]
 cases ev cl call e env h with
 | ok r h1 =>
  cases r with
  | w w => rfl
  | loc l =>
   dsimp only [Ret, xcP]
   cases h1[l]? with
   | none => rfl
   | some o =>
    cases o with
    | exc C r =>
     dsimp only
     by_cases k : 0 < C ∧ C < 7
     ·rw [if_pos k]; simp [Ret, k.1, k.2]
     ·rw [if_neg k]
      exact propext ⟨fun z => z.elim, fun z => k ⟨z.1, z.2.1⟩⟩
    | _ => rfl
 | _ => rfl
theorem R_repL {e n : E} : Ret (ev cl call (.repL e n) env h) Q = Ret (ev cl call e env h) fun r h1 => Ret (ev cl call n env h1) fun k h2 => match k with
  | .w (.int k) => (0 <= k ∧ k < 1000) ∧ Q (.loc h2.length) (h2 ++ [.lst (List.replicate k.toNat r)])
  | _ => False := by
 rw [ev]
 cases ev cl call e env h with
 | ok r h1 =>
  dsimp only [Ret]
  cases ev cl call n env h1 with
  | ok k h2 =>
   cases k with
   | loc l => rfl
   | w w =>
    cases w with
    | int k =>
     dsimp only
     by_cases z : 0 <= k ∧ k < 1000
     ·rw [if_pos z]; simp [z.1, z.2]
     ·rw [if_neg z]; exact propext ⟨fun y => y.elim, fun y => z y.1⟩
    | _ => rfl
  | _ => rfl
 | _ => rfl
theorem R_re {b : Bool} {x y : E} {w : W} (hx : Ret (ev cl call x env h) fun r1 h1 => fz h1 0 20 r1 = some w ∧ reprOkE w = true ∧ Ret (ev cl call y env h1) fun r2 h2 => fz h2 0 20 r2 = some w ∧ sameW w w = true ∧ Q (.w (.bl b)) h2) : Ret (ev cl call (.reprEq b x y) env h) Q := by
 rw [ev]
 cases e1 : ev cl call x env h with
 | ex c v => rw [e1] at hx; exact hx
 | no => rw [e1] at hx; exact hx
 | ok r1 h1 =>
  rw [e1] at hx
  obtain ⟨f1, ok, hy⟩ := hx
  dsimp only
  rw [f1]
  dsimp only
  cases e2 : ev cl call y env h1 with
  | ex c v => rw [e2] at hy; exact hy
  | no => rw [e2] at hy; exact hy
  | ok r2 h2 =>
   rw [e2] at hy
   obtain ⟨f2, sm, q⟩ := hy
   dsimp only
   rw [f2]
   dsimp only
   rw [sm, ok]
   exact q
theorem R_frE {e : E} {w : W} (hx : Ret (ev cl call e env h) fun r h1 => ∃ l, r = .loc l ∧ fz h1 0 20 (.loc l) = some w ∧ Q (.w w) (kill h1 (reach h1 20 (.loc l)))) : Ret (ev cl call (.frE e) env h) Q := by
 rw [ev]
 cases e1 : ev cl call e env h with
 | ex c v => rw [e1] at hx; exact hx
 | no => rw [e1] at hx; exact hx
 | ok r h1 =>
  rw [e1] at hx
  obtain ⟨l, rfl, f, q⟩ := hx
  dsimp only
  rw [f]
  exact q
theorem loopO_map {i : Nat} {st : List (Nat × O)} {body : Env -> Hh -> Res (List R)} {g : R -> R} (hs : still h st = true) {rs : List R} : ∀ {Qr : List R -> Hh -> Prop}, (∀ r ∈ rs, Ret (body (env.set i (some r)) h) fun xs h' => xs = [g r] ∧ h' = h) -> Qr (rs.map g) h -> Ret (lcLoopO (.n i) env st body rs h) Qr := by
 induction rs with
 | nil =>
  intro Qr _ q
  unfold lcLoopO
  rw [if_pos hs]
  exact q
 | cons r rs ih =>
  intro Qr hb q
  unfold lcLoopO
  rw [if_pos hs]
  show Ret (match body (env.set i (some r)) h with
   | .ok xs h' => match lcLoopO (.n i) env st body rs h' with
    | .ok ys h'' => .ok (xs ++ ys) h''
    | r => r
   | _ => .no) Qr
  have z := hb r (by simp)
  cases e : body (env.set i (some r)) h with
  | ex c v => rw [e] at z; exact z.elim
  | no => rw [e] at z; exact z
  | ok xs h' =>
   rw [e] at z
   obtain ⟨rfl, rfl⟩ := z
   dsimp only
   have y := ih (Qr := fun ys g' => Qr (g r :: ys) g') (fun r' hr => hb r' (by simp [hr])) q
   cases e2 : lcLoopO (.n i) env st body rs h' with
   | ex c v => rw [e2] at y; exact y.elim
   | no => rw [e2] at y; exact y
   | ok ys g' => rw [e2] at y; exact y
theorem still1 {l : Nat} {o : O} (e : h[l]? = some o) (s : sameO o o = true) : still h [(l, o)] = true := by
 unfold still
 rw [e]
 simp [s, still]
theorem sameR_locs : ∀ ls : List Nat, sameRs (ls.map R.loc) (ls.map R.loc) = true
 | [] => rfl
 | l :: ls => by
  show (decide (l = l) && sameRs (ls.map R.loc) (ls.map R.loc)) = true
  rw [decide_eq_true rfl, sameR_locs ls]; rfl
def lcBn (cl : Cls) (call : Call) (cs : List E) (e : E) : Env -> Hh -> Res (List R) := fun env' h2 => match tests cl call cs env' h2 with
 | .ok true h3 => asR (ev cl call e env' h3)
 | .ok false h3 => .ok [] h3
 | _ => .no
theorem R_lcBn {e : E} {Qr : List R -> Hh -> Prop} : Ret (lcBn cl call [] e env h) Qr = Ret (ev cl call e env h) fun r h1 => Qr [r] h1 := by
 unfold lcBn
 rw [tests]
 dsimp only
 cases ev cl call e env h <;> rfl
theorem R_lcOm {i j l : Nat} {e : E} {ls : List Nat} {g : R -> R} (ej : (wipe [i] env)[j]? = env[j]?) (ev1 : env[j]? = some (some (.loc l))) (el : h[l]? = some (.lst (ls.map R.loc))) (hz : ls.length <= sizeMax)
  (hb : ∀ k ∈ ls, Ret (ev cl call e ((wipe [i] env).set i (some (.loc k))) h) fun x h' => x = g (.loc k) ∧ h' = h) (q : Q (.loc h.length) (h ++ [.lst ((ls.map R.loc).map g)])) : Ret (ev cl call (.lcO (.n i) (.v j) [] e) env h) Q := by
 rw [ev, ev, ev1]
 dsimp only
 rw [el]
 dsimp only
 have z : Ret (lcLoopO (.n i) (wipe [i] env) [(l, .lst (ls.map R.loc))] (lcBn cl call [] e) (ls.map R.loc) h) fun xs h4 => xs = (ls.map R.loc).map g ∧ h4 = h := by
  refine loopO_map (g := g) (still1 el (sameR_locs ls)) (fun r hr => ?_) ⟨rfl, rfl⟩
  obtain ⟨k, hk, rfl⟩ := List.mem_map.mp hr
  rw [R_lcBn]
  exact (hb k hk).imp fun x h' ⟨e1, e2⟩ => ⟨by rw [e1], e2⟩
 show Ret (match lcLoopO (.n i) (wipe [i] env) [(l, .lst (ls.map R.loc))] (lcBn cl call [] e) (ls.map R.loc) h with
  | .ok xs h4 => if xs.length <= sizeMax then .ok (.loc h4.length) (h4 ++ [.lst xs]) else .no
  | _ => .no) Q
 cases e2 : lcLoopO (.n i) (wipe [i] env) [(l, .lst (ls.map R.loc))] (lcBn cl call [] e) (ls.map R.loc) h with
 | ex c v => rw [e2] at z; exact z.elim
 | no => rw [e2] at z; exact z
 | ok xs h4 =>
  rw [e2] at z
  obtain ⟨rfl, rfl⟩ := z
  dsimp only
  rw [if_pos (by simpa using hz)]
  exact q
theorem R_lcXm {i j l : Nat} {e : E} {ls : List Nat} {g : R -> R} (ev1 : env[j]? = some (some (.loc l))) (el : h[l]? = some (.lst (ls.map R.loc))) (hz : ls.length <= sizeMax)
  (hb : ∀ k ∈ ls, Ret (ev cl call e ((wipe [i] env).set i (some (.loc k))) h) fun x h' => x = g (.loc k) ∧ h' = h) (q : Q (.loc h.length) (h ++ [.lst ((ls.map R.loc).map g)])) : Ret (ev cl call (.lcX (.n i) (.v j) [] e) env h) Q := by
 rw [ev, ev, ev1]
 dsimp only
 have it : itemsX h (.loc l) = some (ls.map R.loc, [(l, .lst (ls.map R.loc))]) := by
  show (match h[l]? with
   | some (.lst rs) => some (rs, [(l, O.lst rs)])
   | some (.tup rs) => some (rs, [(l, .tup rs)])
   | _ => none) = _
  rw [el]
 rw [it]
 dsimp only
 have z : Ret (lcLoopO (.n i) (wipe [i] env) [(l, .lst (ls.map R.loc))] (lcBn cl call [] e) (ls.map R.loc) h) fun xs h4 => xs = (ls.map R.loc).map g ∧ h4 = h := by
  refine loopO_map (g := g) (still1 el (sameR_locs ls)) (fun r hr => ?_) ⟨rfl, rfl⟩
  obtain ⟨k, hk, rfl⟩ := List.mem_map.mp hr
  rw [R_lcBn]
  exact (hb k hk).imp fun x h' ⟨e1, e2⟩ => ⟨by rw [e1], e2⟩
 show Ret (match lcLoopO (.n i) (wipe [i] env) [(l, .lst (ls.map R.loc))] (lcBn cl call [] e) (ls.map R.loc) h with
  | .ok xs h4 => if xs.length <= sizeMax then .ok (.loc h4.length) (h4 ++ [.lst xs]) else .no
  | _ => .no) Q
 cases e2 : lcLoopO (.n i) (wipe [i] env) [(l, .lst (ls.map R.loc))] (lcBn cl call [] e) (ls.map R.loc) h with
 | ex c v => rw [e2] at z; exact z.elim
 | no => rw [e2] at z; exact z
 | ok xs h4 =>
  rw [e2] at z
  obtain ⟨rfl, rfl⟩ := z
  dsimp only
  rw [if_pos (by simpa using hz)]
  exact q
theorem fzs_ext {f g : R -> Option W} (k : ∀ r w, f r = some w -> g r = some w) : ∀ {rs : List R} {ws : List W}, fzs f rs = some ws -> fzs g rs = some ws
 | [], ws, e => e
 | r :: rs, ws, e => by
  unfold fzs at e ⊢
  cases e1 : f r with
  | none => rw [e1] at e; cases e
  | some w =>
   rw [e1] at e
   cases e2 : fzs f rs with
   | none => rw [e2] at e; cases e
   | some us =>
    rw [e2] at e
    rw [k r w e1, fzs_ext k e2]
    exact e
theorem fz_app {t : Hh} : ∀ {n m : Nat} {r : R} {w : W}, n <= m -> fz h 0 n r = some w -> fz (h ++ t) 0 m r = some w
 | n, m, .w w', w, _, e => by cases n <;> cases m <;> exact e
 | 0, _, .loc l, w, _, e => by cases e
 | n + 1, 0, .loc l, w, le, e => by omega
 | n + 1, m + 1, .loc l, w, le, e => by
  have le : n <= m := by omega
  unfold fz at e ⊢
  cases eo : h[l]? with
  | none => rw [eo] at e; simp at e
  | some o =>
   have eo2 : (h ++ t)[l]? = some o := by
    rw [List.getElem?_append_left (List.getElem?_eq_some_iff.mp eo).1]
    exact eo
   rw [eo] at e
   rw [eo2]
   have go : ∀ {rs : List R} {ws : List W}, fzs (fz h 0 n) rs = some ws -> fzs (fz (h ++ t) 0 m) rs = some ws := fzs_ext fun r w => fz_app le
   have mp : ∀ {rs : List R} {f : List W -> W}, (fzs (fz h 0 n) rs).map f = some w -> (fzs (fz (h ++ t) 0 m) rs).map f = some w := fun {rs f} z => by
    cases y : fzs (fz h 0 n) rs with
    | none => rw [y] at z; cases z
    | some ws => rw [go y]; rw [y] at z; exact z
   rw [if_neg (by omega)] at e ⊢
   cases o with
   | lst rs => exact mp e
   | dct ks vs => exact mp e
   | ins C ns vs => exact mp e
   | tup rs => exact mp e
   | _ => cases e
mutual
theorem same_refl : ∀ {n : Nat} {w : W}, showE n w = true -> sameW w w = true
 | _, .non, _ => rfl
 | _, .bl b, _ => by unfold sameW; simp
 | _, .int i, _ => by unfold sameW; simp
 | _, .str x, _ => by unfold sameW; simp
 | n + 1, .tup ws, h => by unfold showE at h; unfold sameW; exact sames_refl h
 | n + 1, .lst ws, h => by unfold showE at h; unfold sameW; exact sames_refl h
 | n + 1, .dct ks vs, h => by
  unfold showE at h
  rw [Bool.and_eq_true] at h
  obtain rfl := List.isEmpty_iff.mp h.1
  obtain rfl := List.isEmpty_iff.mp h.2
  rfl
 | 0, .tup _, h => by unfold showE at h; cases h
 | 0, .lst _, h => by unfold showE at h; cases h
 | 0, .dct _ _, h => by unfold showE at h; cases h
 | _, .ins _ _ _, h => by unfold showE at h; cases h
 | _, .exc _ _, h => by unfold showE at h; cases h
 | _, .scr _, h => by unfold showE at h; cases h
 | _, .rep _, h => by unfold showE at h; cases h
theorem sames_refl : ∀ {n : Nat} {ws : List W}, showEs n ws = true -> sameWs ws ws = true
 | _, [], _ => rfl
 | n, w :: ws, h => by
  unfold showEs at h
  rw [Bool.and_eq_true] at h
  unfold sameWs
  rw [same_refl h.1, sames_refl h.2]; rfl
end
theorem reprOk_same {w : W} (h : reprOkE w = true) : sameW w w = true := by
 unfold reprOkE at h
 rw [Bool.and_eq_true] at h
 exact same_refl h.1
end
end Tf
set_option maxHeartbeats 1000000
namespace Tf
open Classical
structure PkX (fds : List Fd) : Prop where
 M : PkM fds
 m153 : fds[153]? = some f153
 m154 : fds[154]? = some f154
section
variable {cl : Cls} {call : Call} {fds : List Fd} {fuel d : Nat} {env : Env} {h : Hh} {Q : R -> Hh -> Prop}
theorem call_hp {f : Nat} {fd : Fd} {rs : List R} (e : fds[f]? = some fd) (hn : rs.length = fd.np) {env : Env} (he : rs.map some ++ List.replicate (fd.ns - fd.np) none = env)
  (r : Ret (execs cl (callN cl fds fuel d) fuel fd.body env h) fun o g => ∃ x, o.fl = .rt x ∧ Q x g) : Ret (callN cl fds fuel (d + 1) .hp f rs h) Q := by
 rw [callN, e]
 dsimp only [runBy]
 unfold runFd
 rw [if_pos hn, he]
 cases e1 : execs cl (callN cl fds fuel d) fuel fd.body env h with
 | ex c v => rw [e1] at r; exact r
 | no => rw [e1] at r; exact r
 | ok o g =>
  rw [e1] at r
  obtain ⟨x, e2, q⟩ := r
  obtain ⟨fl, en⟩ := o
  have e2 : fl = .rt x := e2
  subst e2
  exact q
theorem O_lenO {l : Nat} {rs : List R} (e : h[l]? = some (.lst rs)) : Ret (opC cl call .len [.loc l] h) Q = Q (.w (.int rs.length)) h := by
 have e4 : opC cl call .len [.loc l] h = match oh_len [.loc l] h with | some (r, h') => .ok r h' | none => .no := rfl
 rw [e4]
 unfold oh_len
 dsimp only
 rw [e]
 rfl
theorem at_app {l : Nat} {o : O} {t : Hh} (e : h[l]? = some o) : (h ++ t)[l]? = some o := by
 rw [List.getElem?_append_left (List.getElem?_eq_some_iff.mp e).1]
 exact e
theorem at_end {o : O} {t : Hh} : (h ++ o :: t)[h.length]? = some o := by simp
theorem s_classes (P : PkX fds) {l C : Nat} {r : R} (hl : h[l]? = some (.exc C r)) (h0 : 0 < C) (h7 : C < 7) (q : Q (.w (.lst [.int (C - 1 : Nat)])) h) : Ret (callN cl fds fuel (d + 1) .hp 153 [.loc l] h) Q := by
 refine call_hp P.m153 rfl (env := [some (.loc l), none, none]) rfl ?_
 have x : ∀ f : Nat -> R -> Prop, xcP h (.loc l) f = f C r := fun f => xc_at hl h0 h7
 unfold f153
 dsimp only
 have hc : C = 1 ∨ C = 2 ∨ C = 3 ∨ C = 4 ∨ C = 5 ∨ C = 6 := by omega
 have c1 : ∀ n : Nat, [n].contains C = decide (C = n) := fun n => by
  simp only [List.contains, List.elem]
  by_cases e : C = n
  ·simp [e]
  ·have : (C == n) = false := by simpa using e
   rw [this, decide_eq_false e]
 have c6 : [1, 2, 3, 4, 5, 6].contains C = true := by rcases hc with rfl | rfl | rfl | rfl | rfl | rfl <;> rfl
 simp? [R_isX, x, c1, c6]
 rw [O_addL (by show _ <= 1000000; simp)]
 simp? [R_isX, x, c1, c6]
 rw [O_addL (by show _ <= 1000000; simp)]
 simp? [R_isX, x, c1, c6]
 rw [O_addL (by show _ <= 1000000; simp)]
 simp? [R_isX, x, c1, c6]
 rw [wk_r (by simp) (by simp)]
 refine (show Ret _ (fun xs h4 => xs = [W.int (C - 1 : Nat)] ∧ h4 = h) from ?_).imp fun xs g ⟨e1, e2⟩ => ?_
 ·clear q c1 c6 x hl
  rcases hc with rfl | rfl | rfl | rfl | rfl | rfl <;> exact And.intro rfl rfl
 ·subst e1 e2
  exact ⟨by show _ <= 1000000; simp, _, rfl, q⟩
theorem fz_lst {l n : Nat} {rs : List R} {ws : List W} (e : h[l]? = some (.lst rs)) (z : fzs (fz h 0 n) rs = some ws) : fz h 0 (n + 1) (.loc l) = some (.lst ws) := by
 unfold fz
 rw [e, if_neg (by omega)]
 dsimp only
 rw [z]
 rfl
theorem six_fz {n : Nat} {r : R} {w : W} (e : fz h 0 n r = some w) : fzs (fz h 0 n) [r, r, r, r, r, r] = some [w, w, w, w, w, w] := by
 simp [fzs, e]
abbrev six (r : R) : List R := [r, r, r, r, r, r]
structure Six (h : Hh) (le : Nat) (r : R) (a b c e f g : Nat) : Prop where
 l : h[le]? = some (.lst ([a, b, c, e, f, g].map R.loc))
 x1 : h[a]? = some (.exc 1 r)
 x2 : h[b]? = some (.exc 2 r)
 x3 : h[c]? = some (.exc 3 r)
 x4 : h[e]? = some (.exc 4 r)
 x5 : h[f]? = some (.exc 5 r)
 x6 : h[g]? = some (.exc 6 r)
theorem Six.app {le a b c e f g : Nat} {r : R} (S : Six h le r a b c e f g) (t : Hh) : Six (h ++ t) le r a b c e f g :=
 ⟨at_app S.l, at_app S.x1, at_app S.x2, at_app S.x3, at_app S.x4, at_app S.x5, at_app S.x6⟩
theorem Six.get {le a b c e f g : Nat} {r : R} (S : Six h le r a b c e f g) {k : Nat} (hk : k ∈ [a, b, c, e, f, g]) : ∃ C, h[k]? = some (.exc C r) ∧ 0 < C ∧ C < 7 := by
 simp only [List.mem_cons, List.not_mem_nil, or_false] at hk
 rcases hk with rfl | rfl | rfl | rfl | rfl | rfl
 ·exact ⟨1, S.x1, by omega, by omega⟩
 ·exact ⟨2, S.x2, by omega, by omega⟩
 ·exact ⟨3, S.x3, by omega, by omega⟩
 ·exact ⟨4, S.x4, by omega, by omega⟩
 ·exact ⟨5, S.x5, by omega, by omega⟩
 ·exact ⟨6, S.x6, by omega, by omega⟩
def clsAt (h : Hh) : R -> R
 | .loc k => match h[k]? with
  | some (.exc C _) => .w (.lst [.int (C - 1 : Nat)])
  | _ => .w .non
 | r => r
abbrev nums : List W := [.lst [.int 0], .lst [.int 1], .lst [.int 2], .lst [.int 3], .lst [.int 4], .lst [.int 5]]
theorem Six.cls {le a b c e f g : Nat} {r : R} (S : Six h le r a b c e f g) : ([a, b, c, e, f, g].map R.loc).map (clsAt h) = nums.map R.w := by
 simp only [List.map_cons, List.map_nil, clsAt, S.x1, S.x2, S.x3, S.x4, S.x5, S.x6]
 rfl
theorem s_right (P : PkX fds) {le a b c e f g : Nat} {r : R} {w : W} (S : Six h le r a b c e f g) (hw : fz h 0 18 r = some w) (ok : reprOkE (.lst [w, w, w, w, w, w]) = true) (q : ∀ t, Q (.w (.bl true)) (h ++ t)) :
  Ret (callN cl fds fuel (d + 2) .hp 154 [.loc le, r] h) Q := by
 refine call_hp P.m154 rfl (env := [some (.loc le), some r, none, none, none]) rfl ?_
 have hs : ([a, b, c, e, f, g].map R.loc).map (fun _ => r) = six r := rfl
 unfold f154
 dsimp only
 rw [X_cons, X_asg]
 refine R_lcOm (g := fun _ => r) rfl rfl S.l (by show _ <= 1000000; simp) (fun k hk => ?_) ?_
 ·obtain ⟨C, e1, c0, c7⟩ := S.get hk
  rw [R_excV, R_var]
  show xcP h (.loc k) _
  rw [xc_at e1 c0 c7]
  exact ⟨rfl, rfl⟩
 rw [hs]
 generalize hh1 : h ++ [O.lst (six r)] = h1
 have S1 : Six h1 le r a b c e f g := hh1 ▸ S.app _
 have l1 : h1[h.length]? = some (.lst (six r)) := by rw [<- hh1]; exact at_end
 have n1 : h1.length = h.length + 1 := by rw [<- hh1]; simp
 have w1 : fz h1 0 19 r = some w := by rw [<- hh1]; exact fz_app (by omega) hw
 show Ret (execs _ _ _ _ [some (.loc le), some r, some (.loc h.length), none, none] h1) _
 rw [X_cons, X_ifs]
 refine R_re (w := .lst [w, w, w, w, w, w]) ?_
 rw [R_var]
 show fz h1 0 20 (.loc h.length) = _ ∧ _
 refine ⟨fz_lst l1 (six_fz w1), ok, ?_⟩
 simp only [R_repL, R_var, slot0, slotS, R_op, R_cons, R_nil]
 rw [O_lenO S1.l]
 have e6 : List.replicate (((List.map R.loc [a, b, c, e, f, g]).length : Nat) : Int).toNat r = six r := rfl
 refine (show (0 <= (((List.map R.loc [a, b, c, e, f, g]).length : Nat) : Int) ∧ (((List.map R.loc [a, b, c, e, f, g]).length : Nat) : Int) < 1000) ∧ _ from ?_)
 rw [e6]
 show _ ∧ fz (h1 ++ [.lst (six r)]) 0 20 (.loc h1.length) = _ ∧ _
 generalize hh2 : h1 ++ [O.lst (six r)] = h2
 have S2 : Six h2 le r a b c e f g := hh2 ▸ S1.app _
 have l2 : h2[h1.length]? = some (.lst (six r)) := by rw [<- hh2]; exact at_end
 have w2 : fz h2 0 19 r = some w := by rw [<- hh2]; exact fz_app (Nat.le_refl _) w1
 refine ⟨⟨by simp, by simp⟩, fz_lst l2 (six_fz w2), reprOk_same ok, ?_⟩
 simp only [bB_f, X_nil, thenX_nx]
 rw [X_cons, X_ret, R_op, R_cons]
 refine R_frE (w := .lst nums) ?_
 refine R_lcXm (g := clsAt h2) rfl S2.l (by show _ <= 1000000; simp) (fun k hk => ?_) ?_
 ·obtain ⟨C, e1, c0, c7⟩ := S2.get hk
  simp only [R_call, R_var, slot0, slotS, R_cons, R_nil, wipe, List.set_cons_zero, List.set_cons_succ]
  refine s_classes P e1 c0 c7 ⟨?_, rfl⟩
  show _ = match h2[k]? with
   | some (.exc C _) => R.w (.lst [.int (C - 1 : Nat)])
   | _ => .w .non
  rw [e1]
 rw [S2.cls]
 generalize hh3 : h2 ++ [O.lst (nums.map R.w)] = h3
 have l3 : h3[h2.length]? = some (.lst (nums.map R.w)) := by rw [<- hh3]; exact at_end
 refine ⟨_, rfl, fz_lst l3 rfl, ?_⟩
 have rc : reach h3 20 (.loc h2.length) = [h2.length] := by
  unfold reach
  rw [l3]
  rfl
 have kl : kill h3 (reach h3 20 (.loc h2.length)) = h ++ [.lst (six r), .lst (six r), .dead] := by
  rw [rc]
  show h3.set h2.length .dead = _
  rw [<- hh3, List.set_append_right _ _ (Nat.le_refl _), Nat.sub_self, <- hh2, <- hh1]
  simp
 rw [kl]
 have S4 := S.app [.lst (six r), .lst (six r), .dead]
 generalize hh4 : h ++ [O.lst (six r), O.lst (six r), O.dead] = h4 at S4
 simp only [R_cons, R_lc, R_op, R_var, slot0, slotS, R_nil]
 rw [O_lenO S4.l, wk_r (by simp) (by simp)]
 refine (show Ret _ (fun xs g => xs = nums ∧ g = h4) from ?_).imp fun xs g ⟨e1, e2⟩ => ?_
 ·exact And.intro rfl rfl
 subst e1 e2
 refine ⟨by show _ <= 1000000; simp, ?_⟩
 rw [O_eq (by decide) (by decide), <- hh4]
 exact ⟨_, rfl, q _⟩
end
end Tf
set_option maxHeartbeats 2000000
namespace Tf
open Classical
abbrev items01 (n : Int) (xs : Tx) : List R := [.w .non, .w (.bl true), .w (.int n), .w (.int (0 - n)), .w (.str xs), .w (.tup []), .loc 1, .loc 4, .w (.dct [] [])]
abbrev G01 (p : O) (n : Int) (xs : Tx) : Hh := [p, .lst [.w (.int n)], .lst [], .lst [.w (.str [97])], .lst [.loc 2, .loc 3], .lst (items01 n xs)]
abbrev T01 (r : R) : Hh := [.exc 1 r, .exc 2 r, .exc 3 r, .exc 4 r, .lst [.loc 6, .loc 7, .loc 8, .loc 9], .exc 5 r, .exc 6 r, .lst [.loc 11, .loc 12], .lst [.loc 6, .loc 7, .loc 8, .loc 9, .loc 11, .loc 12],
 .exc 1 r, .exc 2 r, .exc 3 r, .lst [.loc 15, .loc 16, .loc 17], .exc 4 r, .lst [.loc 19], .lst [.loc 15, .loc 16, .loc 17, .loc 19], .exc 5 r, .exc 6 r, .lst [.loc 22, .loc 23], .lst [.loc 15, .loc 16, .loc 17, .loc 19, .loc 22, .loc 23],
 .exc 1 (.w .non), .exc 2 (.w .non), .exc 3 (.w .non), .exc 4 (.w .non), .exc 5 (.w .non), .lst [.loc 26, .loc 27, .loc 28, .loc 29, .loc 30], .exc 6 (.w .non), .lst [.loc 32], .lst [.loc 26, .loc 27, .loc 28, .loc 29, .loc 30, .loc 32]]
theorem ok6 {w : W} (h1 : showE 39 w = true) (h2 : reprLen w < 100000) : reprOkE (.lst [w, w, w, w, w, w]) = true := by
 unfold reprOkE
 rw [Bool.and_eq_true]
 refine ⟨?_, Nat.ble_eq.mpr ?_⟩
 ·unfold showE
  simp [showEs, h1]
 ·simp only [reprLen, reprLens]
  omega
section
variable {cl : Cls} {fds : List Fd} {fuel d : Nat} {h : Hh} {Q : R -> Hh -> Prop} {Qx : Out -> Hh -> Prop}
theorem R_lstO {call : Call} {env : Env} {es : List E} : Ret (ev cl call (.lstO es) env h) Q = Ret (evs cl call es env h) fun rs h' => rs.length <= sizeMax ∧ Q (.loc h'.length) (h' ++ [.lst rs]) := by
 rw [ev]
 cases evs cl call es env h with
 | ok rs h' =>
  dsimp only [Ret]
  by_cases k : rs.length <= sizeMax
  ·simp_all
  ·rw [if_neg k]; simp only [k, false_and]
 | _ => rfl
theorem O_catO {call : Call} {l k : Nat} {rs us : List R} (e1 : h[l]? = some (.lst rs)) (e2 : h[k]? = some (.lst us)) (z : rs.length + us.length <= 1000000) : Ret (opC cl call .catO [.loc l, .loc k] h) Q = Q (.loc h.length) (h ++ [.lst (rs ++ us)]) := by
 have e4 : opC cl call .catO [.loc l, .loc k] h = match oh_catO [.loc l, .loc k] h with | some (r, h') => .ok r h' | none => .no := rfl
 rw [e4]
 unfold oh_catO
 dsimp only
 rw [e1, e2]
 dsimp only
 rw [if_pos (show rs.length + us.length <= sizeMax from z)]
 rfl
theorem O_idc {call : Call} {ts : List Ty} {ks vs : List W} : Ret (opC cl call (.isinst ts) [.w (.dct ks vs)] h) Q = Q (.w (.bl (ts.any fun t => isInst t (.dct ks vs)))) h := opC_1 rfl rfl
theorem O_isO {call : Call} {ts : List Ty} {l : Nat} {rs : List R} (e : h[l]? = some (.lst rs)) : Ret (opC cl call (.isinst ts) [.loc l] h) Q = Q (.w (.bl (ts.any fun t => instO t (.lst rs)))) h := by
 have e4 : opC cl call (.isinst ts) [.loc l] h = match oh_isinst ts [.loc l] h with | some (r, h') => .ok r h' | none => .no := rfl
 rw [e4]
 unfold oh_isinst
 dsimp only
 rw [e]
 rfl
structure Runs2 (cl : Cls) (call : Call) (fuel : Nat) (ss : List S) (env : Env) (h : Hh) (Qx : Out -> Hh -> Prop) : Prop where
 go : Ret (execs cl call fuel ss env h) Qx
theorem made01 {call : Call} {ns : List Int} {p : O} {n : Int} {xs : Tx} {r : R} (q : Qx ⟨.nx, [some (.w (.scr ns)), some (.loc 0), some (.w (.int n)), some r, some (.loc 14), some (.loc 25), some (.loc 34)]⟩ (G01 p n xs ++ T01 r)) :
  Runs2 cl call fuel ((f155.body.drop 3).take 7) [some (.w (.scr ns)), some (.loc 0), some (.w (.int n)), some r, none, none, none] (G01 p n xs) Qx := by
 constructor
 have sz : ∀ m : Nat, m <= 100 -> m <= sizeMax := fun m h => Nat.le_trans h (by decide)
 dsimp only [f155, List.drop, List.take]
 simp? [R_lstO, R_mkX, List.length_cons, List.length_nil, Nat.reduceAdd]
 refine ⟨sz _ (by decide), ?_⟩
 rw [O_catO (l := 10) (k := 13) (rs := [.loc 6, .loc 7, .loc 8, .loc 9]) (us := [.loc 11, .loc 12]) rfl rfl (by simp)]
 simp? [R_lstO, R_mkX, List.length_cons, List.length_nil, Nat.reduceAdd]
 refine ⟨sz _ (by decide), sz _ (by decide), sz _ (by decide), ?_⟩
 rw [O_catO (l := 18) (k := 20) (rs := [.loc 15, .loc 16, .loc 17]) (us := [.loc 19]) rfl rfl (by simp)]
 simp? [R_lstO, R_mkX, List.length_cons, List.length_nil, Nat.reduceAdd]
 refine ⟨sz _ (by decide), ?_⟩
 rw [O_catO (l := 21) (k := 24) (rs := [.loc 15, .loc 16, .loc 17, .loc 19]) (us := [.loc 22, .loc 23]) rfl rfl (by simp)]
 simp? [R_lstO, R_mkX, List.length_cons, List.length_nil, Nat.reduceAdd]
 refine ⟨sz _ (by decide), sz _ (by decide), ?_⟩
 rw [O_catO (l := 31) (k := 33) (rs := [.loc 26, .loc 27, .loc 28, .loc 29, .loc 30]) (us := [.loc 32]) rfl rfl (by simp)]
 simp? [R_lstO, R_mkX, List.length_cons, List.length_nil, Nat.reduceAdd]
 exact q
theorem fzw {n : Nat} {w : W} : fz h 0 n (.w w) = some w := by cases n <;> rfl
theorem given01 {p : O} {n : Int} {k : Nat} (hn : n.natAbs < 2 ^ 200) (hk : k < 9) {r : R} (hr : r ∈ items01 n (List.replicate k [120]).flatten) : ∃ w, fz (G01 p n (List.replicate k [120]).flatten) 0 10 r = some w ∧ reprOkE (.lst [w, w, w, w, w, w]) = true := by
 have lg1 : n.natAbs.log2 < 1000 := by
  by_cases h0 : n.natAbs = 0
  ·rw [h0]; decide
  ·exact Nat.lt_trans ((Nat.log2_lt h0).mpr hn) (by decide)
 have e0 : (0 - n).natAbs = n.natAbs := by omega
 simp only [items01, List.mem_cons, List.not_mem_nil, or_false] at hr
 rcases hr with rfl | rfl | rfl | rfl | rfl | rfl | rfl | rfl | rfl
 ·exact ⟨_, fzw, ok6 rfl (by decide)⟩
 ·exact ⟨_, fzw, ok6 rfl (by decide)⟩
 ·exact ⟨_, fzw, ok6 (by unfold showE; exact Nat.ble_eq.mpr (by omega)) (by unfold reprLen; omega)⟩
 ·exact ⟨_, fzw, ok6 (by unfold showE; rw [e0]; exact Nat.ble_eq.mpr (by omega)) (by unfold reprLen; rw [e0]; omega)⟩
 ·refine ⟨_, fzw, ?_⟩
  have hc : k = 0 ∨ k = 1 ∨ k = 2 ∨ k = 3 ∨ k = 4 ∨ k = 5 ∨ k = 6 ∨ k = 7 ∨ k = 8 := by omega
  rcases hc with rfl | rfl | rfl | rfl | rfl | rfl | rfl | rfl | rfl <;> decide +kernel
 ·exact ⟨_, fzw, ok6 rfl (by decide)⟩
 ·exact ⟨.lst [.int n], rfl, ok6 (by simp only [showE, showEs, Bool.and_true]; exact Nat.ble_eq.mpr (by omega)) (by simp only [reprLen, reprLens]; omega)⟩
 ·exact ⟨.lst [.lst [], .lst [.str [97]]], rfl, ok6 rfl (by decide)⟩
 ·exact ⟨_, fzw, ok6 rfl (by decide)⟩
theorem six14 {p : O} {n : Int} {xs : Tx} {r : R} : Six (G01 p n xs ++ T01 r) 14 r 6 7 8 9 11 12 := ⟨rfl, rfl, rfl, rfl, rfl, rfl, rfl⟩
theorem six25 {p : O} {n : Int} {xs : Tx} {r : R} : Six (G01 p n xs ++ T01 r) 25 r 15 16 17 19 22 23 := ⟨rfl, rfl, rfl, rfl, rfl, rfl, rfl⟩
theorem six34 {p : O} {n : Int} {xs : Tx} {r : R} : Six (G01 p n xs ++ T01 r) 34 (.w .non) 26 27 28 29 30 32 := ⟨rfl, rfl, rfl, rfl, rfl, rfl, rfl⟩
theorem Six.set {h : Hh} {l : Nat} {o : O} {le a b c e f g : Nat} {r : R} (S : Six h le r a b c e f g) {rs0 : List R} (hl : h[l]? = some (.lst rs0)) (n : l ≠ le) : Six (h.set l o) le r a b c e f g := by
 have k : ∀ {m : Nat} {C : Nat} {y : R}, h[m]? = some (.exc C y) -> (h.set l o)[m]? = some (.exc C y) := fun {m C y} z => by
  rw [List.getElem?_set_ne (fun y => by subst y; rw [hl] at z; cases z)]
  exact z
 exact ⟨by rw [List.getElem?_set_ne n]; exact S.l, k S.x1, k S.x2, k S.x3, k S.x4, k S.x5, k S.x6⟩
theorem grown01 (P : PkX fds) {p : O} {n : Int} {xs : Tx} {l : Nat} {rs : List R} {w : W} {t : Hh} {ns : List Int} (hl : (G01 p n xs ++ T01 (.loc l))[l]? = some (.lst rs)) (n1 : l ≠ 14) (n2 : l ≠ 25) (l6 : l < 6)
  (fw : fz ((G01 p n xs ++ T01 (.loc l)).set l (.lst (rs ++ [.w (.str [109, 111, 114, 101])]))) 0 18 (.loc l) = some w) (ok : reprOkE (.lst [w, w, w, w, w, w]) = true)
  (qz : ∀ o h', o.fl = .rt (.w (.bl true)) -> Qx o h') : Ret (execs cl (callN cl fds fuel (d + 2)) fuel [S.ret ((E.call Md.hp 154 [E.v 4, E.v 3]).and (E.call Md.hp 154 [E.v 5, E.v 3]))] [some (.w (.scr ns)), some (.loc 0), some (.w (.int n)), some (.loc l), some (.loc 14), some (.loc 25), some (.loc 34)]
   ((G01 p n xs ++ T01 (.loc l) ++ t).set l (.lst (rs ++ [.w (.str [109, 111, 114, 101])])))) Qx := by
 rw [List.set_append_left _ _ (by simp; omega)]
 have S1 := (((six14 (p := p) (n := n) (xs := xs) (r := .loc l)).set (o := .lst (rs ++ [.w (.str [109, 111, 114, 101])])) hl n1).app t)
 have S2 := (((six25 (p := p) (n := n) (xs := xs) (r := .loc l)).set (o := .lst (rs ++ [.w (.str [109, 111, 114, 101])])) hl n2).app t)
 have fw := fz_app (t := t) (Nat.le_refl _) fw
 generalize (G01 p n xs ++ T01 (.loc l)).set l (.lst (rs ++ [.w (.str [109, 111, 114, 101])])) ++ t = g at S1 S2 fw
 rw [X_cons, X_ret, R_and, R_call]
 simp only [R_cons, R_var, slot0, slotS, R_nil]
 refine s_right P S1 fw ok fun t1 => ?_
 simp only [bB_t]
 rw [R_call]
 simp only [R_cons, R_var, slot0, slotS, R_nil]
 refine s_right P (S2.app t1) (fz_app (Nat.le_refl _) fw) ok fun t2 => ?_
 rw [thenX_rt]
 exact qz _ _ rfl
theorem tail01 (P : PkX fds) {p : O} {n : Int} {k : Nat} (hn : n.natAbs < 2 ^ 200) (hk : k < 9) {r : R} (hr : r ∈ items01 n (List.replicate k [120]).flatten) {ns : List Int} :
  Runs2 cl (callN cl fds fuel (d + 2)) fuel ((f155.body.drop 3).drop 7) [some (.w (.scr ns)), some (.loc 0), some (.w (.int n)), some r, some (.loc 14), some (.loc 25), some (.loc 34)] (G01 p n (List.replicate k [120]).flatten ++ T01 r) (fun o _ => o.fl = .rt (.w (.bl true))) := by
 constructor
 obtain ⟨w, hw, ok⟩ := given01 (p := p) hn hk hr
 generalize (List.replicate k [120]).flatten = xs at hr hw
 have fw : fz (G01 p n xs ++ T01 r) 0 18 r = some w := fz_app (by decide) hw
 have hN : reprOkE (.lst [.non, .non, .non, .non, .non, .non]) = true := by decide +kernel
 dsimp only [f155, List.drop]
 rw [X_cons, X_ifs, R_or, R_op, R_cons, R_call]
 simp only [R_cons, R_var, slot0, slotS, R_nil]
 refine s_right P six14 fw ok fun t1 => ?_
 simp only [R_nil, O_not, Bool.not_true, bB_f]
 have S1 := (six25 (p := p) (n := n) (xs := xs) (r := r)).app t1
 have S2 := (six34 (p := p) (n := n) (xs := xs) (r := r)).app t1
 have A1 := (six14 (p := p) (n := n) (xs := xs) (r := r)).app t1
 have f1 : fz (G01 p n xs ++ T01 r ++ t1) 0 18 r = some w := fz_app (Nat.le_refl _) fw
 rw [R_or, R_op, R_cons, R_call]
 simp only [R_cons, R_var, slot0, slotS, R_nil]
 refine s_right P S1 f1 ok fun t2 => ?_
 simp only [R_nil, O_not, Bool.not_true, bB_f]
 rw [R_op, R_cons, R_call]
 simp only [R_cons, R_var, slot0, slotS, R_nil, R_c]
 refine s_right P (S2.app t2) fzw hN fun t3 => ?_
 simp only [R_nil, O_not, Bool.not_true, bB_f, X_nil, thenX_nx]
 rw [List.append_assoc, List.append_assoc]
 generalize t1 ++ (t2 ++ t3) = t
 clear S1 S2 A1 f1 hw hN
 have lg1 : n.natAbs.log2 < 1000 := by
  by_cases h0 : n.natAbs = 0
  ·rw [h0]; decide
  ·exact Nat.lt_trans ((Nat.log2_lt h0).mpr hn) (by decide)
 rw [X_cons, X_ifs]
 simp only [items01, List.mem_cons, List.not_mem_nil, or_false] at hr
 rcases hr with rfl | rfl | rfl | rfl | rfl | rfl | rfl | rfl | rfl
 ·simp? only
 ·simp? only
 ·simp? only
 ·simp? only
 ·simp? only
 ·simp? only
 ·simp only [R_op, R_cons, R_var, slot0, slotS, R_nil]
  rw [O_isO (rs := [.w (.int n)]) rfl]
  simp only [List.any_cons, List.any_nil, instO, Bool.true_or, Bool.or_false, bB_t]
  rw [X_cons, X_exp, R_mut]
  simp only [slot0, slotS, R_cons, R_c, R_nil]
  refine ⟨rfl, ?_⟩
  rw [O_app (rs := [.w (.int n)]) rfl (by simp)]
  simp only [thenX_nx]
  exact grown01 P (l := 1) (rs := [.w (.int n)]) (w := .lst [.int n, .str [109, 111, 114, 101]]) rfl (by decide) (by decide) (by decide) rfl (ok6 (by simp only [showE, showEs, Bool.and_true, Bool.true_and]; rw [Bool.and_eq_true]; exact ⟨Nat.ble_eq.mpr (by omega), by decide⟩) (by simp only [reprLen, reprLens, List.length_cons, List.length_nil]; omega)) fun o h' e => by
   obtain ⟨fl, en⟩ := o
   cases e
   rfl
 ·simp only [R_op, R_cons, R_var, slot0, slotS, R_nil]
  rw [O_isO (rs := [.loc 2, .loc 3]) rfl]
  simp only [List.any_cons, List.any_nil, instO, Bool.true_or, Bool.or_false, bB_t]
  rw [X_cons, X_exp, R_mut]
  simp only [slot0, slotS, R_cons, R_c, R_nil]
  refine ⟨rfl, ?_⟩
  rw [O_app (rs := [.loc 2, .loc 3]) rfl (by simp)]
  simp only [thenX_nx]
  exact grown01 P (l := 4) (rs := [.loc 2, .loc 3]) (w := .lst [.lst [], .lst [.str [97]], .str [109, 111, 114, 101]]) rfl (by decide) (by decide) (by decide) rfl (ok6 (by decide) (by decide)) fun o h' e => by
   obtain ⟨fl, en⟩ := o
   cases e
   rfl
 ·simp? [O_idc]
end
end Tf
set_option maxHeartbeats 2000000
namespace Tf
open Classical
section
variable {cl : Cls} {fds : List Fd} {fuel d : Nat} {h : Hh} {env : Env} {call : Call} {Q : R -> Hh -> Prop} {Qx : Out -> Hh -> Prop}
theorem X_cut01 : ∀ (n : Nat) {ss : List S} {env : Env} {h : Hh} (Qm : Env -> Hh -> Prop), Ret (execs cl call fuel (ss.take n) env h) (fun o g => o.fl = .nx ∧ Qm o.env g) -> (∀ e g, Qm e g -> Ret (execs cl call fuel (ss.drop n) e g) Qx) -> Ret (execs cl call fuel ss env h) Qx
 | 0, _, env, h, _, h1, h2 => by rw [List.take_zero, X_nil] at h1; exact h2 env h h1.2
 | n + 1, [], env, h, _, h1, h2 => by rw [List.take_nil, X_nil] at h1; exact h2 env h h1.2
 | n + 1, s :: ss, _, _, Qm, h1, h2 => by
  rw [List.take_succ_cons, X_cons] at h1
  rw [X_cons]
  refine h1.imp fun o g q => ?_
  obtain ⟨fl, en⟩ := o
  cases fl with
  | nx => exact X_cut01 n Qm q h2
  | bk => cases q.1
  | rt r => cases q.1
theorem O_mulX {k : Nat} (hk : k < 9) : Ret (opC cl call .mulS [.w (.str [120]), .w (.int k)] h) Q = Q (.w (.str (List.replicate k [120]).flatten)) h := opC_1 rfl (show op_mulS [.str [120], .int k] = _ by
 unfold op_mulS
 dsimp only
 rw [if_pos ⟨by omega, by omega, by decide⟩]
 rfl)
theorem O_pw {i j k : Int} (hc : (decide (0 <= j ∧ j <= 1000) && Nat.blt i.natAbs.log2 10000) = true) (e : i ^ j.toNat = k) : Ret (opC cl call .pow [.w (.int i), .w (.int j)] h) Q = Q (.w (.int k)) h := opC_1 rfl (show op_pow [.int i, .int j] = _ by
 unfold op_pow
 dsimp only
 rw [hc, if_pos rfl, e])
theorem O_ixO {l : Nat} {rs : List R} {i : Int} {r : R} (e : h[l]? = some (.lst rs)) (e2 : atI rs i = some r) : Ret (opC cl call .idx [.loc l, .w (.int i)] h) Q = Q r h := by
 have e4 : opC cl call .idx [.loc l, .w (.int i)] h = match oh_idx [.loc l, .w (.int i)] h with | some (r, h') => .ok r h' | none => .no := rfl
 rw [e4]
 unfold oh_idx
 dsimp only
 rw [e]
 dsimp only
 rw [e2]
 rfl
theorem s_pickO (M : PkM fds) {l k n : Nat} {rs : List R} {o : O} (hl : h[l]? = some o) (p : PurOk n o) (hn : n <= 1000000) (hk : h[k]? = some (.lst rs)) (ne : l ≠ k) (h1 : 1 <= rs.length) (h2 : rs.length <= 1000000) (q : ∀ (r : R) (o' : O), r ∈ rs -> PurOk (n + 1) o' -> Q r (h.set l o')) :
  Ret (callN cl fds fuel (d + 2) .hp 152 [.loc l, .loc k] h) Q := by
 refine call_hp M.m152 rfl (env := [some (.loc l), some (.loc k)]) rfl ?_
 unfold f152
 dsimp only
 rw [X_cons, X_ret, R_op, R_cons, R_var]
 simp only [slot0, slotS, R_cons, R_call, R_var, R_op, R_nil]
 rw [O_lenO hk]
 refine s_draw M hl p hn h1 h2 fun r o' hr po => ?_
 have e : atI rs (r : Int) = some rs[r] := by
  unfold atI
  simp_all
 rw [O_ixO (by rw [List.getElem?_set_ne ne]; exact hk) e, thenX_rt]
 exact ⟨_, rfl, q _ _ (List.getElem_mem hr) po⟩
theorem join01 {ss : List S} {e1 e2 : Env} {h1 h2 : Hh} (m : Runs2 cl call fuel (ss.take 7) e1 h1 fun o g => o.fl = .nx ∧ o.env = e2 ∧ g = h2) (t : Runs2 cl call fuel (ss.drop 7) e2 h2 Qx) : Runs2 cl call fuel ss e1 h1 Qx :=
 ⟨X_cut01 7 (fun e g => e = e2 ∧ g = h2) m.go fun e g h => by
  obtain ⟨rfl, rfl⟩ := h
  exact t.go⟩
theorem tl01 (P : PkX fds) {p : O} {n : Int} {k : Nat} (hn : n.natAbs < 2 ^ 200) (hk : k < 9) {r : R} (hr : r ∈ items01 n (List.replicate k [120]).flatten) {ns : List Int} {e : Env} {g : Hh}
  (h1 : e = [some (.w (.scr ns)), some (.loc 0), some (.w (.int n)), some r, none, none, none]) (h2 : g = G01 p n (List.replicate k [120]).flatten) : Runs2 cl (callN cl fds fuel (d + 2)) fuel (f155.body.drop 3) e g fun o _ => o.fl = .rt (.w (.bl true)) := by
 subst h1 h2
 exact join01 (made01 (Qx := fun o g => o.fl = .nx ∧ o.env = [some (.w (.scr ns)), some (.loc 0), some (.w (.int n)), some r, some (.loc 14), some (.loc 25), some (.loc 34)] ∧ g = G01 p n (List.replicate k [120]).flatten ++ T01 r) ⟨rfl, rfl, rfl⟩) (tail01 P hn hk hr)
theorem s_law01 (P : PkX fds) (ns : List Int) : Ret (execs cl (callN cl fds fuel (d + 1 + 2)) fuel f155.body [some (.w (.scr ns)), none, none, none, none, none, none] []) fun o _ => o.fl = .rt (.w (.bl true)) := by
 refine X_cut01 3 (fun e g => ∃ (p : O) (n : Int) (k : Nat) (r : R), n.natAbs < 2 ^ 200 ∧ k < 9 ∧ r ∈ items01 n (List.replicate k [120]).flatten ∧ e = [some (.w (.scr ns)), some (.loc 0), some (.w (.int n)), some r, none, none, none] ∧ g = G01 p n (List.replicate k [120]).flatten) ?_ ?_
 ·dsimp only [f155, List.take]
  rw [X_cons, X_asg, R_call]
  simp only [R_cons, R_var, slot0, slotS, R_nil, R_c]
  refine s_purse P.M (by omega) (by omega) fun p0 q0 => ?_
  rw [List.nil_append]
  simp only [setP_n, thenX_nx, List.set_cons_zero, List.set_cons_succ, List.length_nil]
  rw [X_cons, X_asg]
  simp only [R_op, R_cons, R_call, R_var, slot0, slotS, R_nil, R_c]
  rw [O_pw (k := 1000000) (by decide) (by decide)]
  refine s_draw P.M (l := 0) (many := 1000000) rfl q0 (by omega) (by omega) (by omega) fun r1 p1 h1 q1 => ?_
  rw [O_pw (k := 1000000000000000000000000000000000) (by decide) (by decide)]
  have b1 : (r1 : Int).natAbs.log2 < 200 := lg (by omega)
  have b2 : (1000000000000000000000000000000000 : Int).natAbs.log2 < 200 := by decide +kernel
  rw [O_mul (by omega)]
  clear b2
  simp only [R_op, R_cons, R_call, R_var, slot0, slotS, R_nil, R_c, List.set_cons_zero]
  rw [O_pw (k := 1000000) (by decide) (by decide)]
  refine s_draw P.M (l := 0) (many := 1000000) rfl q1 (by omega) (by omega) (by omega) fun r2 p2 h2 q2 => ?_
  simp only [R_nil, O_addI, setP_n, thenX_nx, List.set_cons_zero, List.set_cons_succ]
  generalize hN : (r1 : Int) * 1000000000000000000000000000000000 + r2 = n
  have bn : n.natAbs < 2 ^ 200 := by omega
  rw [X_cons, X_asg, R_call, R_cons, R_var]
  simp only [R_op, R_cons, R_call, R_var, slot0, slotS, R_nil, R_c, R_lstO, O_sub, R_al, O_lst0, O_lst1, List.map_cons, List.map_nil]
  refine s_draw P.M (l := 0) (many := 9) rfl q2 (by omega) (by omega) (by omega) fun k p3 hk q3 => ?_
  rw [O_mulX hk, O_tup rfl (by decide)]
  simp only [List.set_cons_zero, List.cons_append, List.nil_append, List.length_cons, List.length_nil, Nat.reduceAdd]
  refine ⟨by decide, ?_⟩
  rw [show ∀ {Q : R -> Hh -> Prop} {h : Hh}, Ret (opC cl (callN cl fds fuel (d + 1 + 2)) .dct0 [] h) Q = Q (.w (.dct [] [])) h from opC_1 rfl rfl]
  refine ⟨by decide, ?_⟩
  refine s_pickO P.M (l := 0) (k := 5) (rs := items01 n (List.replicate k [120]).flatten) rfl q3 (by omega) rfl (by decide) (by simp) (by simp) fun r p4 hr q4 => ?_
  simp only [setP_n, thenX_nx, List.set_cons_zero, List.set_cons_succ, X_nil]
  exact ⟨trivial, p4, n, k, r, bn, hk, hr, rfl, rfl⟩
 ·exact fun e g ⟨p, n, k, r, hn, hk, hr, h1, h2⟩ => (tl01 P hn hk hr h1 h2).go
end
theorem pkX01 : PkX fds := ⟨by constructor <;> rfl, rfl, rfl⟩
theorem runs_true (ns : List Int) (hl : ns.length <= 63) : ∃ h, runFd cls (callN cls fds 1000000 40) 1000000 f155 [.w (.scr ns)] [] = .ok (.w (.bl true)) h := by
 have r := s_law01 (cl := cls) (fds := fds) (fuel := 1000000) (d := 37) pkX01 ns
 generalize hc : callN cls fds 1000000 (37 + 1 + 2) = c at r
 unfold runFd
 rw [if_pos (show [R.w (.scr ns)].length = f155.np from rfl)]
 have e : [R.w (.scr ns)].map some ++ List.replicate (f155.ns - f155.np) none = [some (.w (.scr ns)), none, none, none, none, none, none] := rfl
 rw [e]
 cases e1 : execs cls c 1000000 f155.body [some (.w (.scr ns)), none, none, none, none, none, none] [] with
 | ex c v => rw [e1] at r; exact r.elim
 | no => rw [e1] at r; exact r.elim
 | ok o h =>
  rw [e1] at r
  obtain ⟨fl, en⟩ := o
  have r : fl = .rt (.w (.bl true)) := r
  subst r
  exact ⟨h, rfl⟩
end Tf
def runsTrue : Prop := ∀ ns : List Int, ns.length <= 63 -> ∃ h, Tf.runFd Tf.cls (Tf.callN Tf.cls Tf.fds 1000000 40) 1000000 Tf.f155 [.w (.scr ns)] [] = .ok (.w (.bl true)) h
section
set_option maxHeartbeats 0
namespace Hx
open PySem L2 PyProof.Rows Tf
theorem facts {w : World} {K : PySem.W.Frag} {h : Heap} {mg : Str -> Option Value} {fA : Addr} (run : ∀ ns : List Int, ns.length <= 63 -> ∃ h, runFd cls (callN cls fds 1000000 40) 1000000 f155 [.w (.scr ns)] [] = .ok (.w (.bl true)) h) (X : K.In h) (G : h.Ns mainGlobals mg) (hfa : mg "law" = some (.ref fA)) (c : He.SaysX fas fns [] [] ex w h K) (cp : xds.map (Hv.fnX K) = xds.map Hv.valX) : ∃ fd : FuncData, (∀ (s : Shared) (u : Value), BindsTo s fd ⟨[u], []⟩ [("_law_script", u)]) ∧ ∀ base : Heap, K.In base -> base.Ns mainGlobals mg -> FnG PySem.Challenge.rw_tiedfirsts_k01_errors_made.prog w K mg base CX0 82 fA fd ["_law_script"] (spLaw K) := by
 have D := c.t.d
 have hex := c.more
 unfold ex at hex
 simp only [Bool.and_eq_true, decide_eq_true_eq] at hex
 obtain ⟨q_t_int, q_t_bool, q_t_str, q_t_list, q_t_tuple, q_g, q_xInvalidScheme, q_xInvalidFact, q_xInvalidColumns, q_xInvalidTable, q_xInvalidQuestion, q_xInvalidPlace, q_is⟩ := hex
 have EX_InvalidScheme : Hv.fnX K xd_InvalidScheme = Hv.valX xd_InvalidScheme := by
  have e := congrArg (fun l => l[0]?) cp
  exact Option.some.inj e
 have EX_InvalidFact : Hv.fnX K xd_InvalidFact = Hv.valX xd_InvalidFact := by
  have e := congrArg (fun l => l[1]?) cp
  exact Option.some.inj e
 have EX_InvalidColumns : Hv.fnX K xd_InvalidColumns = Hv.valX xd_InvalidColumns := by
  have e := congrArg (fun l => l[2]?) cp
  exact Option.some.inj e
 have EX_InvalidTable : Hv.fnX K xd_InvalidTable = Hv.valX xd_InvalidTable := by
  have e := congrArg (fun l => l[3]?) cp
  exact Option.some.inj e
 have EX_InvalidQuestion : Hv.fnX K xd_InvalidQuestion = Hv.valX xd_InvalidQuestion := by
  have e := congrArg (fun l => l[4]?) cp
  exact Option.some.inj e
 have EX_InvalidPlace : Hv.fnX K xd_InvalidPlace = Hv.valX xd_InvalidPlace := by
  have e := congrArg (fun l => l[5]?) cp
  exact Option.some.inj e
 exact fin_all run X G hfa (He.eqO_ok (D.fact 0 (f := .free "ValueError") rfl)) (He.eqO_ok (D.fact 1 (f := .free "int") rfl)) (He.eqO_ok (D.fact 2 (f := .free "isinstance") rfl)) (He.eqO_ok (D.fact 3 (f := .free "len") rfl)) (He.eqO_ok (D.fact 4 (f := .free "list") rfl)) (He.eqO_ok (D.fact 5 (f := .free "max") rfl)) (He.eqO_ok (D.fact 6 (f := .free "range") rfl)) (He.eqO_ok (D.fact 7 (f := .free "repr") rfl)) (btB_ok q_t_int) (btB_ok q_t_bool) (btB_ok q_t_str) (btB_ok q_t_list) (btB_ok q_t_tuple) (gB_ok q_g) (top_at D X G 0 8) (top_at D X G 1 9) (top_at D X G 2 10) (top_at D X G 3 11) (top_at D X G 4 12) (top_at D X G 5 13) (Hv.clsX_of X G q_is (Hv.xcls_of (p := xd_InvalidScheme) X G EX_InvalidScheme q_xInvalidScheme (by kernel_rfl) form_InvalidScheme) (Hv.xcls_of (p := xd_InvalidFact) X G EX_InvalidFact q_xInvalidFact (by kernel_rfl) form_InvalidFact) (Hv.xcls_of (p := xd_InvalidColumns) X G EX_InvalidColumns q_xInvalidColumns (by kernel_rfl) form_InvalidColumns) (Hv.xcls_of (p := xd_InvalidTable) X G EX_InvalidTable q_xInvalidTable (by kernel_rfl) form_InvalidTable) (Hv.xcls_of (p := xd_InvalidQuestion) X G EX_InvalidQuestion q_xInvalidQuestion (by kernel_rfl) form_InvalidQuestion) (Hv.xcls_of (p := xd_InvalidPlace) X G EX_InvalidPlace q_xInvalidPlace (by kernel_rfl) form_InvalidPlace))
end Hx
open PySem PySem.W PySem.Calls PyProof.Rows
theorem headOf : PySem.Challenge.rw_tiedfirsts_k01_errors_made.Holds := by
 w_on; o_law
 refine HandSHeadRun.head_any (r := OpenLaw.row PySem.Challenge.rw_tiedfirsts_k01_errors_made) (q := view (OpenLaw.row PySem.Challenge.rw_tiedfirsts_k01_errors_made).prog [14]) (H := Hx.hk) (ob := Hx.ob) (M := 12000) (loose := Hx.nms) (d := HandSHeadRun.topDef (OpenLaw.row PySem.Challenge.rw_tiedfirsts_k01_errors_made).prog 14) (kwd := []) Hx.ob_eq
  (by kernel_rfl) (fun s => by kernel_rfl) Hx.run (by kernel_rfl) (by kernel_rfl) (by kernel_rfl) (by rfl) (by first | assumption | decide +kernel) (by decide +kernel) ⟨rfl, rfl, rfl, rfl, rfl, by decide +kernel⟩ ?hw ?hc
 case hw => w_witness2
 case hc =>
  refine Tf.walkX (l := PySem.Challenge.rw_tiedfirsts_k01_errors_made) (k := 82) (x := "_law_script") rfl (by kernel_rfl) ⟨rfl, by decide, by decide⟩ ?F
  intro w mg fa h Y G hmg0
  obtain ⟨K, KX, c, cp⟩ := Y
  have hmg : mg ("law" : PySem.Str) = some (.ref fa) := by
   have e : (HandSHeadRun.topDef (OpenLaw.row PySem.Challenge.rw_tiedfirsts_k01_errors_made).prog 14).name = ("law" : PySem.Str) := by kernel_rfl
   rw [<- e]
   exact hmg0
  exact ⟨K, KX, Hx.facts (w := w) Tf.runs_true KX G hmg c cp⟩
end
theorem PySem.Challenge.cw_tiedfirsts_k01_errors_made_holds : PySem.Challenge.rw_tiedfirsts_k01_errors_made.Holds := by
 exact headOf
